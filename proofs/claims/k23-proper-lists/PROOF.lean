import PyProof.Rows.All
import Wide.All
import OpenK.AllK
import Wide.FinOn
import HandS.ForMost
import HandS.ForExc
import HandS.Wide
import HandS.TupAny
import HandS.Style
import HandS.TupLen
import HandS.SortInts
import HandS.StrMore
import PyProof.ListStr
import PyProof.TupleOfStr
import HandS.Conv
import HandS.IsInst
import HandS.CallSlots
import HandS.Walk
import HandS.RevRange
import HandS.Rev
import HandS.DictComp
import KE.GoesEnum
import HandS.Zip
import HandS.ExcInit
import HandS.ExcField
import KE.KExcIs
import HandS.Replace
import HandS.Codes
import PySem.Challenge.RW_piecehouse_k23_proper_lists
set_option Elab.async false
set_option linter.all false
set_option maxRecDepth 100000
set_option maxHeartbeats 8000000
/-! Pure data over the abstract heap: what a value stands for, who owns it. -/
namespace DL
open PySem PySem.Spec L2
/-- plain data -/
inductive D where
  | non | bl (b : Bool) | int (i : Int) | str (x : Str) | ty (n : String) | cls (c : String)
  | tup (xs : List D)
  | lst (xs : List D)
  | tupk (xs : List D)
  | lsk (xs : List D)
  | dic (kvs : List (Key × D))
  | dit (kvs : List (List Key × D))
  | obj (c : String) (fs : List (String × D))
  | hole
  deriving Inhabited
/-- who may change it: nobody any more (no); its one holder, all items alike (lst); its one holder, field by field (obj) -/
inductive Own where
  | no | lst (c : Own) | obj (fs : List (String × Own))
  deriving Inhabited
abbrev Fp := Addr → Nat
def Fp.z : Fp := fun _ => 0
def Fp.one (a : Addr) : Fp := fun b => if b = a then 1 else 0
/-- the ownership of a field -/
def ownF (fo : List (String × Own)) (f : String) : Own := (fo.lookup f).getD .no
section
variable (K : PySem.W.Frag) (cl : String → Addr) (Hf H : Hp)
/-- the value (the values) stand for the data; frozen parts are read in Hf, owned ones in H; f counts the owned addresses -/
inductive R : V ⊕ List V → D ⊕ List D → Own ⊕ List Own → Fp → Prop
  | non {f : Fp} (hf : ∀ b, f b = 0) : R (.inl .non) (.inl .non) (.inl .no) f
  | bl {f : Fp} (x : Bool) (hf : ∀ b, f b = 0) : R (.inl (.bl x)) (.inl (.bl x)) (.inl .no) f
  | int {f : Fp} (i : Int) (hf : ∀ b, f b = 0) : R (.inl (.int i)) (.inl (.int i)) (.inl .no) f
  | str {f : Fp} (x : Str) (hf : ∀ b, f b = 0) : R (.inl (.str x)) (.inl (.str x)) (.inl .no) f
  | ty {f : Fp} (n : String) (hf : ∀ b, f b = 0) : R (.inl (.ty n)) (.inl (.ty n)) (.inl .no) f
  | cls {f : Fp} (c : String) (hf : ∀ b, f b = 0) : R (.inl (.ref (cl c))) (.inl (.cls c)) (.inl .no) f
  | hole {f : Fp} (v : V) (hf : ∀ b, f b = 0) : R (.inl v) (.inl .hole) (.inl .no) f
  | tupk {f : Fp} {a : Addr} {vs : List V} {ds : List D} {os : List Own} (h : SqT K Hf a vs) (r : R (.inr vs) (.inr ds) (.inr os) f) (ho : ∀ o ∈ os, o = .no) (hf : ∀ b, f b = 0) :
      R (.inl (.ref a)) (.inl (.tupk ds)) (.inl .no) f
  | lsk {f : Fp} {a : Addr} {vs : List V} {ds : List D} {os : List Own} (h : SqL K Hf a vs) (r : R (.inr vs) (.inr ds) (.inr os) f) (ho : ∀ o ∈ os, o = .no) (hf : ∀ b, f b = 0) :
      R (.inl (.ref a)) (.inl (.lsk ds)) (.inl .no) f
  | tup {f : Fp} {a : Addr} {vs : List V} {ds : List D} {os : List Own} (h : Hf a = some (.tup vs)) (r : R (.inr vs) (.inr ds) (.inr os) f) (ho : ∀ o ∈ os, o = .no) (hf : ∀ b, f b = 0) :
      R (.inl (.ref a)) (.inl (.tup ds)) (.inl .no) f
  | lstF {f : Fp} {a : Addr} {vs : List V} {ds : List D} {os : List Own} (h : Hf a = some (.lst vs)) (r : R (.inr vs) (.inr ds) (.inr os) f) (ho : ∀ o ∈ os, o = .no) (hf : ∀ b, f b = 0) :
      R (.inl (.ref a)) (.inl (.lst ds)) (.inl .no) f
  | lstO {f g : Fp} {a : Addr} {vs : List V} {ds : List D} {os : List Own} {c : Own} (h : H a = some (.lst vs)) (hn : Hf a = none) (r : R (.inr vs) (.inr ds) (.inr os) g) (ho : ∀ o ∈ os, o = c)
      (hf : ∀ b, f b = (if b = a then 1 else 0) + g b) : R (.inl (.ref a)) (.inl (.lst ds)) (.inl (.lst c)) f
  | dicF {f : Fp} {a : Addr} {kvs : List (Key × V)} {kds : List (Key × D)} {os : List Own} (h : Hf a = some (.dK kvs)) (hk : kvs.map (·.1) = kds.map (·.1)) (r : R (.inr (kvs.map (·.2))) (.inr (kds.map (·.2))) (.inr os) f)
      (ho : ∀ o ∈ os, o = .no) (hf : ∀ b, f b = 0) : R (.inl (.ref a)) (.inl (.dic kds)) (.inl .no) f
  | dicO {f g : Fp} {a : Addr} {kvs : List (Key × V)} {kds : List (Key × D)} {os : List Own} {c : Own} (h : H a = some (.dK kvs)) (hn : Hf a = none) (hk : kvs.map (·.1) = kds.map (·.1))
      (r : R (.inr (kvs.map (·.2))) (.inr (kds.map (·.2))) (.inr os) g) (ho : ∀ o ∈ os, o = c) (hf : ∀ b, f b = (if b = a then 1 else 0) + g b) : R (.inl (.ref a)) (.inl (.dic kds)) (.inl (.lst c)) f
  | ditF {f : Fp} {a : Addr} {kvs : List (List Key × V)} {kds : List (List Key × D)} {os : List Own} (h : Hf a = some (.dT kvs)) (hk : kvs.map (·.1) = kds.map (·.1)) (r : R (.inr (kvs.map (·.2))) (.inr (kds.map (·.2))) (.inr os) f)
      (ho : ∀ o ∈ os, o = .no) (hf : ∀ b, f b = 0) : R (.inl (.ref a)) (.inl (.dit kds)) (.inl .no) f
  | ditO {f g : Fp} {a : Addr} {kvs : List (List Key × V)} {kds : List (List Key × D)} {os : List Own} {c : Own} (h : H a = some (.dT kvs)) (hn : Hf a = none) (hk : kvs.map (·.1) = kds.map (·.1))
      (r : R (.inr (kvs.map (·.2))) (.inr (kds.map (·.2))) (.inr os) g) (ho : ∀ o ∈ os, o = c) (hf : ∀ b, f b = (if b = a then 1 else 0) + g b) : R (.inl (.ref a)) (.inl (.dit kds)) (.inl (.lst c)) f
  | objF {f : Fp} {a dx : Addr} {c : String} {fvs : List (Str × V)} {fds : List (String × D)} {os : List Own} (h : Hf a = some (.ins (cl c) dx fvs)) (hk : fvs.map (·.1) = fds.map fun p => Str.ofString p.1)
      (r : R (.inr (fvs.map (·.2))) (.inr (fds.map (·.2))) (.inr os) f) (ho : ∀ o ∈ os, o = .no) (hf : ∀ b, f b = 0) : R (.inl (.ref a)) (.inl (.obj c fds)) (.inl .no) f
  | objO {f g : Fp} {a dx : Addr} {c : String} {fvs : List (Str × V)} {fds : List (String × D)} {os : List Own} {fo : List (String × Own)} (h : H a = some (.ins (cl c) dx fvs)) (hn : Hf a = none) (hk : fvs.map (·.1) = fds.map fun p => Str.ofString p.1)
      (r : R (.inr (fvs.map (·.2))) (.inr (fds.map (·.2))) (.inr os) g) (ho : os = fds.map fun p => ownF fo p.1) (hf : ∀ b, f b = (if b = a then 1 else 0) + g b) : R (.inl (.ref a)) (.inl (.obj c fds)) (.inl (.obj fo)) f
  | nil {f : Fp} (hf : ∀ b, f b = 0) : R (.inr []) (.inr []) (.inr []) f
  | cons {f g k : Fp} {v : V} {vs : List V} {d : D} {ds : List D} {o : Own} {os : List Own} (r : R (.inl v) (.inl d) (.inl o) f) (rs : R (.inr vs) (.inr ds) (.inr os) g) (hf : ∀ b, k b = f b + g b) :
      R (.inr (v :: vs)) (.inr (d :: ds)) (.inr (o :: os)) k
abbrev R1 (v : V) (d : D) (o : Own) (f : Fp) : Prop := R K cl Hf H (.inl v) (.inl d) (.inl o) f
abbrev Rs (vs : List V) (ds : List D) (os : List Own) (f : Fp) : Prop := R K cl Hf H (.inr vs) (.inr ds) (.inr os) f
end
section
variable {K : PySem.W.Frag} {cl : String → Addr} {Hf H Hf' H' : Hp}
theorem R.len0 {x y z} {f : Fp} (h : R K cl Hf H x y z f) : ∀ vs ds os, x = .inr vs → y = .inr ds → z = .inr os → vs.length = ds.length ∧ os.length = ds.length := by
  induction h with
  | nil => intro vs ds os e1 e2 e3; cases e1; cases e2; cases e3; exact ⟨rfl, rfl⟩
  | cons r rs hf ih1 ih2 =>
    intro vs ds os e1 e2 e3
    cases e1; cases e2; cases e3
    obtain ⟨a, b⟩ := ih2 _ _ _ rfl rfl rfl
    exact ⟨by simp [a], by simp [b]⟩
  | _ => intro vs ds os e1; cases e1
theorem R.len {vs : List V} {ds : List D} {os : List Own} {f : Fp} (h : Rs K cl Hf H vs ds os f) : vs.length = ds.length ∧ os.length = ds.length := h.len0 _ _ _ rfl rfl rfl
/-- owned addresses are tracked in H, not frozen -/
theorem R.live {x y z} {f : Fp} (h : R K cl Hf H x y z f) : ∀ b, f b ≠ 0 → (∃ o, H b = some o) ∧ Hf b = none := by
  induction h with
  | @lstO f g a vs ds os c h hn r ho hf ih =>
    intro b hb
    by_cases e : b = a
    · subst e; exact ⟨⟨_, h⟩, hn⟩
    · rw [hf, if_neg e] at hb; exact ih b (by omega)
  | @dicO f g a kvs kds os c h hn hk r ho hf ih =>
    intro b hb
    by_cases e : b = a
    · subst e; exact ⟨⟨_, h⟩, hn⟩
    · rw [hf, if_neg e] at hb; exact ih b (by omega)
  | @ditO f g a kvs kds os c h hn hk r ho hf ih =>
    intro b hb
    by_cases e : b = a
    · subst e; exact ⟨⟨_, h⟩, hn⟩
    · rw [hf, if_neg e] at hb; exact ih b (by omega)
  | @objO f g a dx c fvs fds os fo h hn hk r ho hf ih =>
    intro b hb
    by_cases e : b = a
    · subst e; exact ⟨⟨_, h⟩, hn⟩
    · rw [hf, if_neg e] at hb; exact ih b (by omega)
  | @cons f g k v vs d ds o os r rs hf ih1 ih2 =>
    intro b hb
    rw [hf] at hb
    by_cases e : f b = 0
    · exact ih2 b (by omega)
    · exact ih1 b e
  | _ => intro b hb; exact absurd (by simp_all) hb
theorem sqL_sub {a : Addr} {xs : List V} (s : Same Hf Hf') (h : SqL K Hf a xs) : SqL K Hf' a xs := s.seq h
theorem sqT_sub {a : Addr} {xs : List V} (s : Same Hf Hf') (h : SqT K Hf a xs) : SqT K Hf' a xs := by
  rcases h with (h | ⟨o, h⟩) | h
  · exact .inl (.inl (s _ _ h))
  · exact .inl (.inr ⟨o, s _ _ h⟩)
  · exact .inr h
/-- carried over to a later state -/
theorem R.to {x y z} {f : Fp} (h : R K cl Hf H x y z f) (s : Same Hf Hf') (k : ∀ b, f b ≠ 0 → H' b = H b ∧ Hf' b = none) : R K cl Hf' H' x y z f := by
  induction h with
  | non hf => exact .non hf
  | bl x hf => exact .bl x hf
  | int x hf => exact .int x hf
  | str x hf => exact .str x hf
  | ty x hf => exact .ty x hf
  | cls x hf => exact .cls x hf
  | hole x hf => exact .hole x hf
  | tupk h r ho hf ih => exact .tupk (sqT_sub s h) (ih k) ho hf
  | lsk h r ho hf ih => exact .lsk (sqL_sub s h) (ih k) ho hf
  | tup h r ho hf ih => exact .tup (s _ _ h) (ih k) ho hf
  | lstF h r ho hf ih => exact .lstF (s _ _ h) (ih k) ho hf
  | @lstO f g a vs ds os c h hn r ho hf ih =>
    have ka := k a (by rw [hf, if_pos rfl]; omega)
    exact .lstO (ka.1.trans h) ka.2 (ih fun b hb => k b (by rw [hf]; omega)) ho hf
  | dicF h hk r ho hf ih => exact .dicF (s _ _ h) hk (ih k) ho hf
  | @dicO f g a kvs kds os c h hn hk r ho hf ih =>
    have ka := k a (by rw [hf, if_pos rfl]; omega)
    exact .dicO (ka.1.trans h) ka.2 hk (ih fun b hb => k b (by rw [hf]; omega)) ho hf
  | ditF h hk r ho hf ih => exact .ditF (s _ _ h) hk (ih k) ho hf
  | @ditO f g a kvs kds os c h hn hk r ho hf ih =>
    have ka := k a (by rw [hf, if_pos rfl]; omega)
    exact .ditO (ka.1.trans h) ka.2 hk (ih fun b hb => k b (by rw [hf]; omega)) ho hf
  | objF h hk r ho hf ih => exact .objF (s _ _ h) hk (ih k) ho hf
  | @objO f g a dx c fvs fds os fo h hn hk r ho hf ih =>
    have ka := k a (by rw [hf, if_pos rfl]; omega)
    exact .objO (ka.1.trans h) ka.2 hk (ih fun b hb => k b (by rw [hf]; omega)) ho hf
  | nil hf => exact .nil hf
  | cons r rs hf ih1 ih2 => exact .cons (ih1 fun b hb => k b (by rw [hf]; omega)) (ih2 fun b hb => k b (by rw [hf]; omega)) hf
theorem R.zero_of_no {v : V} {d : D} {f : Fp} (h : R1 K cl Hf H v d .no f) : ∀ b, f b = 0 := by
  cases h <;> assumption
theorem R.no_of_zero {v : V} {d : D} {o : Own} {f : Fp} (h : R1 K cl Hf H v d o f) (z : ∀ b, f b = 0) : o = .no := by
  cases h with
  | @lstO f g a vs ds os c h hn r ho hf => have := hf a; rw [if_pos rfl] at this; have := z a; omega
  | @dicO f g a kvs kds os c h hn hk r ho hf => have := hf a; rw [if_pos rfl] at this; have := z a; omega
  | @ditO f g a kvs kds os c h hn hk r ho hf => have := hf a; rw [if_pos rfl] at this; have := z a; omega
  | @objO f g a dx c fvs fds os fo h hn hk r ho hf => have := hf a; rw [if_pos rfl] at this; have := z a; omega
  | _ => rfl
/-- all parts free of owners -/
theorem R.zeros_of_no {vs : List V} {ds : List D} {os : List Own} {f : Fp} (h : Rs K cl Hf H vs ds os f) (ho : ∀ o ∈ os, o = .no) : ∀ b, f b = 0 := by
  generalize ex : (Sum.inr vs : V ⊕ List V) = x at h
  generalize ey : (Sum.inr ds : D ⊕ List D) = y at h
  generalize ez : (Sum.inr os : Own ⊕ List Own) = z at h
  induction vs generalizing ds os f x y z with
  | nil => subst ex ey ez; cases h; assumption
  | cons v vs ih =>
    subst ex ey ez
    cases h with
    | cons r rs hf =>
      intro b
      have e := ho _ (List.mem_cons_self ..)
      subst e
      rw [hf, r.zero_of_no b, ih rs (fun o m => ho o (List.mem_cons_of_mem _ m)) _ rfl _ rfl _ rfl b]
theorem R.get {vs : List V} {ds : List D} {os : List Own} {f : Fp} (h : Rs K cl Hf H vs ds os f) {i : Nat} {v : V} (hi : vs[i]? = some v) : ∃ (d : D) (o : Own) (g k : Fp), ds[i]? = some d ∧ os[i]? = some o ∧ R1 K cl Hf H v d o g ∧ ∀ b, f b = g b + k b := by
  induction vs generalizing ds os f i with
  | nil => simp at hi
  | cons x xs ih =>
    cases h with
    | @cons f g _ _ _ d ds o os r rs hf =>
      cases i with
      | zero => simp at hi; subst hi; exact ⟨d, o, f, g, rfl, rfl, r, hf⟩
      | succ i =>
        obtain ⟨d', o', g', k', h1, h2, h3, h4⟩ := ih rs (i := i) (by simpa using hi)
        exact ⟨d', o', g', fun b => f b + k' b, by simpa using h1, by simpa using h2, h3, fun b => by have := hf b; have := h4 b; show _ = _ + (_ + _); omega⟩
theorem R.getD {vs : List V} {ds : List D} {os : List Own} {f : Fp} (h : Rs K cl Hf H vs ds os f) {i : Nat} {d : D} (hi : ds[i]? = some d) : ∃ (v : V) (o : Own) (g k : Fp), vs[i]? = some v ∧ os[i]? = some o ∧ R1 K cl Hf H v d o g ∧ ∀ b, f b = g b + k b := by
  have l := h.len
  have hb : i < vs.length := by rw [l.1]; exact (List.getElem?_eq_some_iff.mp hi).1
  obtain ⟨d', o, g, k, h1, h2, h3, h4⟩ := h.get (List.getElem?_eq_getElem hb)
  rw [hi] at h1; cases h1
  exact ⟨_, o, g, k, List.getElem?_eq_getElem hb, h2, h3, h4⟩
theorem R.append {vs vs' : List V} {ds ds' : List D} {os os' : List Own} {f g : Fp} (h : Rs K cl Hf H vs ds os f) (h' : Rs K cl Hf H vs' ds' os' g) : Rs K cl Hf H (vs ++ vs') (ds ++ ds') (os ++ os') (fun b => f b + g b) := by
  induction vs generalizing ds os f with
  | nil =>
    cases h with
    | nil hf => 
      have e : (fun b => f b + g b) = g := funext fun b => by rw [hf]; omega
      rw [e]; exact h'
  | cons x xs ih =>
    cases h with
    | @cons f1 g1 _ _ _ d ds o os r rs hf => exact .cons r (ih rs) fun b => by rw [hf]; omega
theorem R.one {v : V} {d : D} {o : Own} {f : Fp} (h : R1 K cl Hf H v d o f) : Rs K cl Hf H [v] [d] [o] f := .cons h (.nil (f := Fp.z) fun _ => rfl) fun b => by simp [Fp.z]
theorem R.fp {x y z} {f g : Fp} (h : R K cl Hf H x y z f) (e : ∀ b, f b = g b) : R K cl Hf H x y z g := by
  have : f = g := funext e
  rw [← this]; exact h
end
/-! ### The slots -/
abbrev Env := List (Option (D × Own))
section
variable (K : PySem.W.Frag) (cl : String → Addr) (Hf H : Hp)
inductive EnvR : St → Env → Fp → Prop
  | nil {f : Fp} (hf : ∀ b, f b = 0) : EnvR [] [] f
  | gap {f : Fp} {x : Option V} {σ : St} {ρ : Env} (r : EnvR σ ρ f) : EnvR (x :: σ) (none :: ρ) f
  | has {f g k : Fp} {v : V} {d : D} {o : Own} {σ : St} {ρ : Env} (h : R1 K cl Hf H v d o f) (r : EnvR σ ρ g) (hf : ∀ b, k b = f b + g b) : EnvR (some v :: σ) (some (d, o) :: ρ) k
end
section
variable {K : PySem.W.Frag} {cl : String → Addr} {Hf H Hf' H' : Hp} {σ : St} {ρ : Env} {f g : Fp}
theorem EnvR.len (h : EnvR K cl Hf H σ ρ f) : σ.length = ρ.length := by
  induction h with
  | nil => rfl
  | gap r ih => simp [ih]
  | has h r hf ih => simp [ih]
theorem EnvR.live (h : EnvR K cl Hf H σ ρ f) : ∀ b, f b ≠ 0 → (∃ o, H b = some o) ∧ Hf b = none := by
  induction h with
  | nil hf => intro b hb; exact absurd (hf b) hb
  | gap r ih => exact ih
  | @has f g k v d o σ ρ h r hf ih =>
    intro b hb
    rw [hf] at hb
    by_cases e : f b = 0
    · exact ih b (by omega)
    · exact h.live b e
theorem EnvR.to (h : EnvR K cl Hf H σ ρ f) (s : Same Hf Hf') (k : ∀ b, f b ≠ 0 → H' b = H b ∧ Hf' b = none) : EnvR K cl Hf' H' σ ρ f := by
  induction h with
  | nil hf => exact .nil hf
  | gap r ih => exact .gap (ih k)
  | has h r hf ih => exact .has (h.to s fun b hb => k b (by rw [hf]; omega)) (ih fun b hb => k b (by rw [hf]; omega)) hf
/-- a slot's datum, the rest -/
theorem EnvR.at (h : EnvR K cl Hf H σ ρ f) {i : Nat} {d : D} {o : Own} (hi : ρ[i]? = some (some (d, o))) :
    ∃ (v : V) (g k : Fp), σ[i]? = some (some v) ∧ R1 K cl Hf H v d o g ∧ EnvR K cl Hf H σ (ρ.set i none) k ∧ ∀ b, f b = g b + k b := by
  induction h generalizing i with
  | nil hf => simp at hi
  | gap r ih =>
    cases i with
    | zero => simp at hi
    | succ i =>
      obtain ⟨v, g, k, h1, h2, h3, h4⟩ := ih (i := i) (by simpa using hi)
      exact ⟨v, g, k, by simpa using h1, h2, by simpa using EnvR.gap h3, h4⟩
  | @has f g k v d' o' σ ρ h r hf ih =>
    cases i with
    | zero =>
      simp at hi
      obtain ⟨rfl, rfl⟩ := hi
      exact ⟨v, f, g, rfl, h, by simpa using EnvR.gap r, hf⟩
    | succ i =>
      obtain ⟨v', g', k', h1, h2, h3, h4⟩ := ih (i := i) (by simpa using hi)
      exact ⟨v', g', fun b => f b + k' b, by simpa using h1, h2, by simpa using EnvR.has h h3 fun b => rfl, fun b => by have := hf b; have := h4 b; show _ = _ + (_ + _); omega⟩
/-- a slot's datum is forgotten -/
theorem EnvR.drop (h : EnvR K cl Hf H σ ρ f) (i : Nat) : ∃ k, EnvR K cl Hf H σ (ρ.set i none) k ∧ ∀ b, k b ≤ f b := by
  induction h generalizing i with
  | nil hf => exact ⟨_, by simpa using EnvR.nil hf, fun b => Nat.le_refl _⟩
  | gap r ih =>
    cases i with
    | zero => exact ⟨_, by simpa using EnvR.gap r, fun b => Nat.le_refl _⟩
    | succ i =>
      obtain ⟨k, h3, h4⟩ := ih i
      exact ⟨k, by simpa using EnvR.gap h3, h4⟩
  | @has f g k v d' o' σ ρ h r hf ih =>
    cases i with
    | zero => exact ⟨g, by simpa using EnvR.gap r, fun b => by rw [hf]; omega⟩
    | succ i =>
      obtain ⟨k', h3, h4⟩ := ih i
      exact ⟨fun b => f b + k' b, by simpa using EnvR.has h h3 fun b => rfl, fun b => by have := hf b; have := h4 b; show _ + _ ≤ _; omega⟩
/-- a slot takes a value -/
theorem EnvR.put (h : EnvR K cl Hf H σ ρ f) {i : Nat} (hi : i < σ.length) {v : V} {d : D} {o : Own} (r : R1 K cl Hf H v d o g) (hn : ρ[i]? = some none) : EnvR K cl Hf H (σ.set i (some v)) (ρ.set i (some (d, o))) (fun b => g b + f b) := by
  induction h generalizing i with
  | nil hf => simp at hi
  | @gap f x σ ρ r' ih =>
    cases i with
    | zero => exact .has r r' fun b => rfl
    | succ i => exact .gap (ih (by simpa using hi) (by simpa using hn))
  | @has f' g' k v' d' o' σ ρ h r' hf ih =>
    cases i with
    | zero => simp at hn
    | succ i => exact .has h (ih (by simpa using hi) (by simpa using hn)) fun b => by rw [hf]; omega
/-- .. the value that it held -/
theorem EnvR.back (h : EnvR K cl Hf H σ ρ f) {i : Nat} {v : V} (hi : σ[i]? = some (some v)) {d : D} {o : Own} (r : R1 K cl Hf H v d o g) (hn : ρ[i]? = some none) : EnvR K cl Hf H σ (ρ.set i (some (d, o))) (fun b => g b + f b) := by
  have hl := (List.getElem?_eq_some_iff.mp hi)
  obtain ⟨hb, e⟩ := hl
  have := h.put hb r hn
  rwa [show σ.set i (some v) = σ by rw [← e]; exact List.set_getElem_self hb] at this
/-- the slot's value may be anything where nothing is known -/
theorem EnvR.any (h : EnvR K cl Hf H σ ρ f) {i : Nat} (hn : ρ[i]? = some none) (x : Option V) : EnvR K cl Hf H (σ.set i x) ρ f := by
  induction h generalizing i with
  | nil hf => simp at hn
  | gap r ih =>
    cases i with
    | zero => exact .gap r
    | succ i => exact .gap (ih (by simpa using hn))
  | has h r hf ih =>
    cases i with
    | zero => simp at hn
    | succ i => exact .has h (ih (by simpa using hn)) hf
end
end DL
/-! States, frames, the monad of mirrors, what a reading denotes. -/
namespace DL
open PySem PySem.Spec L2
/-- what is known of a context: pinned slots, frozen facts -/
structure Pc where
  pin : List (Nat × V)
  fac : Hp → Prop
  mono : ∀ {A B : Hp}, Same A B → fac A → fac B
structure Good (K : PySem.W.Frag) (cl : String → Addr) (C : Pc) (Hf H : Hp) (σ : L2.St) (ρ : Env) (fp : Fp) : Prop where
  sub : Same Hf H
  env : EnvR K cl Hf H σ ρ fp
  nd : ∀ b, fp b ≤ 1
  pin : ∀ p ∈ C.pin, σ[p.1]? = some (some p.2)
  fac : C.fac Hf
structure Fr (Hf H : Hp) (fp : Fp) (Hf' H' : Hp) (fp' : Fp) : Prop where
  sub : Same Hf Hf'
  keep : ∀ b o, H b = some o → fp b = 0 → H' b = some o
  there : ∀ b, H' b = none → H b = none
  new : ∀ b, fp' b ≠ 0 → fp b ≠ 0 ∨ H b = none
  newf : ∀ b, Hf' b ≠ none → Hf b ≠ none ∨ fp b ≠ 0 ∨ H b = none
/-- nothing that stood is touched or frozen -/
structure Quiet (Hf H : Hp) (fp : Fp) (Hf' H' : Hp) : Prop where
  same : Same H H'
  own : ∀ b, fp b ≠ 0 → Hf' b = none
section
variable {K : PySem.W.Frag} {cl : String → Addr} {C : Pc} {Hf H Hf1 H1 Hf2 H2 : Hp} {σ : L2.St} {ρ : Env} {fp fp1 fp2 f : Fp}
theorem Fr.refl : Fr Hf H fp Hf H fp := ⟨Same.refl _, fun _ _ h _ => h, fun _ h => h, fun _ h => .inl h, fun _ h => .inl h⟩
theorem Quiet.refl (h : ∀ b, fp b ≠ 0 → Hf b = none) : Quiet Hf H fp Hf H := ⟨Same.refl _, h⟩
theorem Fr.trans (a : Fr Hf H fp Hf1 H1 fp1) (b : Fr Hf1 H1 fp1 Hf2 H2 fp2) : Fr Hf H fp Hf2 H2 fp2 where
  sub := a.sub.trans b.sub
  keep := fun x o h z => b.keep x o (a.keep x o h z) (by
    by_cases e : fp1 x = 0
    · exact e
    · rcases a.new x e with q | q
      · exact absurd z q
      · rw [h] at q; cases q)
  there := fun x h => a.there x (b.there x h)
  new := fun x h => by
    rcases b.new x h with q | q
    · exact a.new x q
    · exact .inr (a.there x q)
  newf := fun x h => by
    rcases b.newf x h with q | q | q
    · exact a.newf x q
    · exact .inr (a.new x q)
    · exact .inr (.inr (a.there x q))
/-- fewer are claimed -/
theorem Fr.less (a : Fr Hf H fp Hf1 H1 fp1) (h : ∀ b, fp2 b ≤ fp1 b) : Fr Hf H fp Hf1 H1 fp2 :=
  ⟨a.sub, a.keep, a.there, fun b hb => a.new b (by have := h b; omega), a.newf⟩
theorem Fr.more (a : Fr Hf H fp Hf1 H1 fp1) (h : ∀ b, fp2 b ≠ 0 → fp b ≠ 0 ∨ H b = none) : Fr Hf H fp Hf1 H1 fp2 := ⟨a.sub, a.keep, a.there, h, a.newf⟩
theorem Quiet.trans (a : Quiet Hf H fp Hf1 H1) (b : Quiet Hf1 H1 fp Hf2 H2) : Quiet Hf H fp Hf2 H2 := ⟨a.same.trans b.same, b.own⟩
/-- a value read is still what it was: it was one's own, or what came behind was quiet -/
theorem R.past {v : V} {d : D} {o : Own} (h : R1 K cl Hf1 H1 v d o f) (a : Fr Hf1 H1 fp1 Hf2 H2 fp2) (c : (∀ b, f b + fp1 b ≤ 1) ∨ Quiet Hf1 H1 fp1 Hf2 H2) : R1 K cl Hf2 H2 v d o f := by
  refine h.to a.sub fun b hb => ?_
  obtain ⟨⟨ob, hl⟩, hn⟩ := h.live b hb
  rcases c with c | q
  · have z : fp1 b = 0 := by have := c b; omega
    refine ⟨(a.keep b ob hl z).trans hl.symm, ?_⟩
    cases e : Hf2 b with
    | none => rfl
    | some u =>
      rcases a.newf b (by rw [e]; exact fun z => nomatch z) with r | r | r
      · exact absurd hn r
      · exact absurd z r
      · rw [hl] at r; cases r
  · refine ⟨(q.same b ob hl).trans hl.symm, ?_⟩
    cases e : Hf2 b with
    | none => rfl
    | some u =>
      rcases a.newf b (by rw [e]; exact fun z => nomatch z) with r | r | r
      · exact absurd hn r
      · rw [q.own b r] at e; cases e
      · rw [hl] at r; cases r
theorem Rs.past {vs : List V} {ds : List D} {os : List Own} (h : Rs K cl Hf1 H1 vs ds os f) (a : Fr Hf1 H1 fp1 Hf2 H2 fp2) (c : (∀ b, f b + fp1 b ≤ 1) ∨ Quiet Hf1 H1 fp1 Hf2 H2) : Rs K cl Hf2 H2 vs ds os f := by
  refine h.to a.sub fun b hb => ?_
  obtain ⟨⟨ob, hl⟩, hn⟩ := h.live b hb
  rcases c with c | q
  · have z : fp1 b = 0 := by have := c b; omega
    refine ⟨(a.keep b ob hl z).trans hl.symm, ?_⟩
    cases e : Hf2 b with
    | none => rfl
    | some u =>
      rcases a.newf b (by rw [e]; exact fun z => nomatch z) with r | r | r
      · exact absurd hn r
      · exact absurd z r
      · rw [hl] at r; cases r
  · refine ⟨(q.same b ob hl).trans hl.symm, ?_⟩
    cases e : Hf2 b with
    | none => rfl
    | some u =>
      rcases a.newf b (by rw [e]; exact fun z => nomatch z) with r | r | r
      · exact absurd hn r
      · rw [q.own b r] at e; cases e
      · rw [hl] at r; cases r
theorem Good.live (G : Good K cl C Hf H σ ρ fp) : ∀ b, fp b ≠ 0 → (∃ o, H b = some o) ∧ Hf b = none := G.env.live
/-- a new object, one's own -/
theorem Good.alloc (G : Good K cl C Hf H σ ρ fp) {p : Addr} (hp : H p = none) (o : HO) : Good K cl C Hf (upd H p o) σ ρ fp := by
  have hfp : fp p = 0 := by
    by_cases e : fp p = 0
    · exact e
    · obtain ⟨⟨u, q⟩, _⟩ := G.live p e; rw [hp] at q; cases q
  exact ⟨fun b u h => by rw [upd_ne (ne_of_none (G.sub b u h) hp)]; exact G.sub b u h, G.env.to (Same.refl _) fun b hb => ⟨upd_ne fun e => hb (by rw [e]; exact hfp), (G.live b hb).2⟩, G.nd, G.pin, G.fac⟩
theorem Same.newf {A : Hp} {p : Addr} (hp : A p = none) (o : HO) : Same A (upd A p o) := fun b u h => by rw [upd_ne (ne_of_none h hp)]; exact h
/-- a new object, frozen -/
theorem Good.allocF (G : Good K cl C Hf H σ ρ fp) {p : Addr} (hp : H p = none) (o : HO) : Good K cl C (upd Hf p o) (upd H p o) σ ρ fp := by
  have hfp : ∀ b, fp b ≠ 0 → b ≠ p := fun b hb e => by
    obtain ⟨⟨u, q⟩, _⟩ := G.live b hb; rw [e, hp] at q; cases q
  have hn : Hf p = none := G.sub.free hp
  exact ⟨fun b u h => by
    by_cases e : b = p
    · subst e; rw [upd_same] at h ⊢; exact h
    · rw [upd_ne e] at h ⊢; exact G.sub b u h, G.env.to (Same.newf hn o) fun b hb => ⟨upd_ne (hfp b hb), by rw [upd_ne (hfp b hb)]; exact (G.live b hb).2⟩, G.nd, G.pin, C.mono (Same.newf hn o) G.fac⟩
theorem Fr.alloc {p : Addr} (hp : H p = none) (o : HO) : Fr Hf H fp Hf (upd H p o) fp := ⟨Same.refl _, fun b u h _ => by rw [upd_ne (ne_of_none h hp)]; exact h, fun b h => by
    by_cases e : b = p
    · rw [e]; exact hp
    · rwa [upd_ne e] at h, fun b h => .inl h, fun b h => .inl h⟩
theorem Fr.allocF {p : Addr} (hp : H p = none) (hn : Hf p = none) (o : HO) : Fr Hf H fp (upd Hf p o) (upd H p o) fp := ⟨Same.newf hn o, fun b u h _ => by rw [upd_ne (ne_of_none h hp)]; exact h, fun b h => by
    by_cases e : b = p
    · rw [e]; exact hp
    · rwa [upd_ne e] at h, fun b h => .inl h, fun b h => by
    by_cases e : b = p
    · rw [e]; exact .inr (.inr hp)
    · rw [upd_ne e] at h; exact .inl h⟩
theorem Good.quietA (G : Good K cl C Hf H σ ρ fp) {p : Addr} (hp : H p = none) (o : HO) : Quiet Hf H fp Hf (upd H p o) := ⟨Same.newf hp o, fun b hb => (G.live b hb).2⟩
theorem Good.quietF (G : Good K cl C Hf H σ ρ fp) {p : Addr} (hp : H p = none) (o : HO) : Quiet Hf H fp (upd Hf p o) (upd H p o) := ⟨Same.newf hp o, fun b hb => by
  obtain ⟨⟨u, q⟩, n⟩ := G.live b hb
  rw [upd_ne (ne_of_none q hp)]; exact n⟩
end
/-! ### The monad of mirrors -/
inductive Rz (α : Type) where
  | stuck
  | ok (a : α) (ρ : Env)
  | err (c : String) (fs : List (String × D)) (ρ : Env)
abbrev M (α : Type) := Env → Rz α
def M.bind {α β : Type} (f : M α) (g : α → M β) : M β := fun ρ => match f ρ with
  | .stuck => .stuck
  | .ok a ρ' => g a ρ'
  | .err c fs ρ' => .err c fs ρ'
def M.ret {α : Type} (a : α) : M α := fun ρ => .ok a ρ
def M.stuck {α : Type} : M α := fun _ => .stuck
def M.opt {α : Type} (a : Option α) : M α := fun ρ => match a with
  | some a => .ok a ρ
  | none => .stuck
instance : Monad M where
  pure := M.ret
  bind := M.bind
abbrev DO := D × Own
section
variable (K : PySem.W.Frag) (cl : String → Addr) (C : Pc) (W : WX)
/-- an error is wished for -/
def WzE (σ : L2.St) (Hf H : Hp) (fp : Fp) (c : String) (fs : List (String × D)) (ρ' : Env) : Prop :=
  ∀ Hf' H' fp' dx fvs os f, Good K cl C Hf' H' σ ρ' fp' → Fr Hf H fp Hf' H' fp' → H' dx = some (.xd fvs) → Hf' dx = some (.xd fvs) → fvs.map (·.1) = fs.map (fun p => Str.ofString p.1) → Rs K cl Hf' H' (fvs.map (·.2)) (fs.map (·.2)) os f → (∀ o ∈ os, o = .no) →
    W (.ref (cl c)) (some dx) σ H'
def Wz {α : Type} (σ : L2.St) (Hf H : Hp) (fp : Fp) (r : Rz α) (P : α → Env → Prop) : Prop := match r with
  | .stuck => False
  | .ok a ρ' => P a ρ'
  | .err c fs ρ' => WzE K cl C W σ Hf H fp c fs ρ'
/-- what stands behind an expression: p: it was quiet; own: the value is nobody else's -/
def POk (p own : Bool) (σ : L2.St) (Hf H : Hp) (fp : Fp) (Q : VK) (x : DO) (ρ' : Env) : Prop :=
  ∀ v Hf' H' fp' fd, Good K cl C Hf' H' σ ρ' fp' → R1 K cl Hf' H' v x.1 x.2 fd → Fr Hf H fp Hf' H' fp' → (own = true → (∀ b, fd b + fp' b ≤ 1) ∧ ∀ b, fd b ≠ 0 → fp b ≠ 0 ∨ H b = none) → (p = true → Quiet Hf H fp Hf' H') → Q v H'
def Den (p own : Bool) (t : TE) (f : M DO) : Prop := ∀ σ H Q ρ Hf fp, Good K cl C Hf H σ ρ fp → Wz K cl C W σ Hf H fp (f ρ) (POk K cl C p own σ Hf H fp Q) → t σ H Q
/-- .. a list of arguments -/
def PsOk (p own : Bool) (σ : L2.St) (Hf H : Hp) (fp : Fp) (Q : List V → Hp → Prop) (xs : List DO) (ρ' : Env) : Prop :=
  ∀ vs Hf' H' fp' fd, Good K cl C Hf' H' σ ρ' fp' → Rs K cl Hf' H' vs (xs.map (·.1)) (xs.map (·.2)) fd → Fr Hf H fp Hf' H' fp' → (own = true → (∀ b, fd b + fp' b ≤ 1) ∧ ∀ b, fd b ≠ 0 → fp b ≠ 0 ∨ H b = none) → (p = true → Quiet Hf H fp Hf' H') → Q vs H'
def DenA (p own : Bool) (t : TA) (f : M (List DO)) : Prop := ∀ σ H Q ρ Hf fp, Good K cl C Hf H σ ρ fp → Wz K cl C W σ Hf H fp (f ρ) (PsOk K cl C p own σ Hf H fp Q) → t σ H Q
/-- .. a test -/
def PtOk (p : Bool) (σ : L2.St) (Hf H : Hp) (fp : Fp) (Q : Bool → Hp → Prop) (b : Bool) (ρ' : Env) : Prop :=
  ∀ Hf' H' fp', Good K cl C Hf' H' σ ρ' fp' → Fr Hf H fp Hf' H' fp' → (p = true → Quiet Hf H fp Hf' H') → Q b H'
def DenT (p : Bool) (t : TT) (f : M Bool) : Prop := ∀ σ H Q ρ Hf fp, Good K cl C Hf H σ ρ fp → Wz K cl C W σ Hf H fp (f ρ) (PtOk K cl C p σ Hf H fp Q) → t σ H Q
end
section
variable {K : PySem.W.Frag} {cl : String → Addr} {C : Pc} {W : WX} {Hf H Hf1 H1 Hf2 H2 : Hp} {σ : L2.St} {ρ : Env} {fp fp1 fp2 f : Fp}
theorem WzE.past {c : String} {fs : List (String × D)} {ρ' : Env} (h : WzE K cl C W σ Hf H fp c fs ρ') (a : Fr Hf H fp Hf1 H1 fp1) : WzE K cl C W σ Hf1 H1 fp1 c fs ρ' :=
  fun Hf' H' fp' dx fvs os f G F => h Hf' H' fp' dx fvs os f G (a.trans F)
theorem Wz.past {α : Type} {r : Rz α} {P : α → Env → Prop} (h : Wz K cl C W σ Hf H fp r P) (a : Fr Hf H fp Hf1 H1 fp1) : Wz K cl C W σ Hf1 H1 fp1 r P := by
  cases r with
  | stuck => exact h
  | ok x ρ' => exact h
  | err c fs ρ' => exact WzE.past h a
theorem Wz.imp {α : Type} {r : Rz α} {P P' : α → Env → Prop} (h : Wz K cl C W σ Hf H fp r P) (a : ∀ x ρ', r = .ok x ρ' → P x ρ' → P' x ρ') : Wz K cl C W σ Hf H fp r P' := by
  cases r with
  | stuck => exact h
  | ok x ρ' => exact a x ρ' rfl h
  | err c fs ρ' => exact h
/-- an expression, then the rest -/
theorem Den.bind {β : Type} {p own : Bool} {t : TE} {fe : M DO} {k : DO → M β} {P : β → Env → Prop} {T : VK} (ha : Den K cl C W p own t fe) (G : Good K cl C Hf H σ ρ fp) (h : Wz K cl C W σ Hf H fp (M.bind fe k ρ) P)
    (cont : ∀ x ρ1 v Hf1 H1 fp1 fd, Good K cl C Hf1 H1 σ ρ1 fp1 → R1 K cl Hf1 H1 v x.1 x.2 fd → Fr Hf H fp Hf1 H1 fp1 → (own = true → (∀ b, fd b + fp1 b ≤ 1) ∧ ∀ b, fd b ≠ 0 → fp b ≠ 0 ∨ H b = none) → (p = true → Quiet Hf H fp Hf1 H1) →
      Wz K cl C W σ Hf1 H1 fp1 (k x ρ1) P → T v H1) : t σ H T := by
  refine ha σ H T ρ Hf fp G ?_
  unfold M.bind at h
  cases e : fe ρ with
  | stuck => rw [e] at h; exact h
  | ok x ρ1 =>
    rw [e] at h
    exact fun v Hf1 H1 fp1 fd G1 r1 F1 o1 p1 => cont x ρ1 v Hf1 H1 fp1 fd G1 r1 F1 o1 p1 (Wz.past h F1)
  | err c fs ρ1 => rw [e] at h; exact h
theorem DenT.bind {β : Type} {p : Bool} {t : TT} {fe : M Bool} {k : Bool → M β} {P : β → Env → Prop} {T : Bool → Hp → Prop} (ha : DenT K cl C W p t fe) (G : Good K cl C Hf H σ ρ fp) (h : Wz K cl C W σ Hf H fp (M.bind fe k ρ) P)
    (cont : ∀ x ρ1 Hf1 H1 fp1, Good K cl C Hf1 H1 σ ρ1 fp1 → Fr Hf H fp Hf1 H1 fp1 → (p = true → Quiet Hf H fp Hf1 H1) → Wz K cl C W σ Hf1 H1 fp1 (k x ρ1) P → T x H1) : t σ H T := by
  refine ha σ H T ρ Hf fp G ?_
  unfold M.bind at h
  cases e : fe ρ with
  | stuck => rw [e] at h; exact h
  | ok x ρ1 =>
    rw [e] at h
    exact fun Hf1 H1 fp1 G1 F1 p1 => cont x ρ1 Hf1 H1 fp1 G1 F1 p1 (Wz.past h F1)
  | err c fs ρ1 => rw [e] at h; exact h
theorem DenA.bind {β : Type} {p own : Bool} {t : TA} {fe : M (List DO)} {k : List DO → M β} {P : β → Env → Prop} {T : List V → Hp → Prop} (ha : DenA K cl C W p own t fe) (G : Good K cl C Hf H σ ρ fp) (h : Wz K cl C W σ Hf H fp (M.bind fe k ρ) P)
    (cont : ∀ xs ρ1 vs Hf1 H1 fp1 fd, Good K cl C Hf1 H1 σ ρ1 fp1 → Rs K cl Hf1 H1 vs (xs.map (·.1)) (xs.map (·.2)) fd → Fr Hf H fp Hf1 H1 fp1 → (own = true → (∀ b, fd b + fp1 b ≤ 1) ∧ ∀ b, fd b ≠ 0 → fp b ≠ 0 ∨ H b = none) → (p = true → Quiet Hf H fp Hf1 H1) →
      Wz K cl C W σ Hf1 H1 fp1 (k xs ρ1) P → T vs H1) : t σ H T := by
  refine ha σ H T ρ Hf fp G ?_
  unfold M.bind at h
  cases e : fe ρ with
  | stuck => rw [e] at h; exact h
  | ok x ρ1 =>
    rw [e] at h
    exact fun v Hf1 H1 fp1 fd G1 r1 F1 o1 p1 => cont x ρ1 v Hf1 H1 fp1 fd G1 r1 F1 o1 p1 (Wz.past h F1)
  | err c fs ρ1 => rw [e] at h; exact h
/-- a flat or frozen result of what stands -/
theorem POk.no {p own : Bool} {Q : VK} {d : D} {ρ' : Env} {v : V} (h : POk K cl C p own σ Hf H fp Q (d, .no) ρ') (G : Good K cl C Hf1 H1 σ ρ' fp1) (r : R1 K cl Hf1 H1 v d .no f) (F : Fr Hf H fp Hf1 H1 fp1) (q : p = true → Quiet Hf H fp Hf1 H1) : Q v H1 :=
  h v Hf1 H1 fp1 f G r F (fun _ => ⟨fun b => by rw [r.zero_of_no b]; have := G.nd b; omega, fun b hb => absurd (r.zero_of_no b) hb⟩) q
end
end DL
/-! Operations on data and what the rules' readings denote. -/
namespace DL
open PySem PySem.Spec L2
def Own.item : Own → Own
  | .lst c => c
  | _ => .no
/-- its items are frozen -/
def Own.fl : Own → Bool
  | .no => true
  | .lst .no => true
  | _ => false
theorem Own.fl_item {o : Own} (h : o.fl = true) : o.item = .no := by
  cases o with
  | no => rfl
  | lst c => cases c with
    | no => rfl
    | _ => cases h
  | obj f => rfl
section
variable {K : PySem.W.Frag} {cl : String → Addr} {Hf H : Hp} {v : V} {ds : List D} {o : Own} {f : Fp}
theorem R.isLst (h : R1 K cl Hf H v (.lst ds) o f) (s : Same Hf H) : ∃ (a : Addr) (vs : List V) (os : List Own) (g : Fp), v = .ref a ∧ H a = some (.lst vs) ∧ Rs K cl Hf H vs ds os g ∧ (∀ x ∈ os, x = o.item) ∧ ∀ b, g b ≤ f b := by
  cases h with
  | lstF h r ho hf => exact ⟨_, _, _, f, rfl, s _ _ h, r, ho, fun b => Nat.le_refl _⟩
  | lstO h hn r ho hf => exact ⟨_, _, _, _, rfl, h, r, ho, fun b => by rw [hf]; omega⟩
theorem R.isTup (h : R1 K cl Hf H v (.tup ds) o f) (s : Same Hf H) : ∃ (a : Addr) (vs : List V) (os : List Own), v = .ref a ∧ H a = some (.tup vs) ∧ Hf a = some (.tup vs) ∧ Rs K cl Hf H vs ds os Fp.z ∧ ∀ x ∈ os, x = .no := by
  cases h with
  | tup h r ho hf => exact ⟨_, _, _, rfl, s _ _ h, h, r.fp hf, ho⟩
theorem R.isTupk (h : R1 K cl Hf H v (.tupk ds) o f) (s : Same Hf H) : ∃ (a : Addr) (vs : List V) (os : List Own), v = .ref a ∧ SqT K H a vs ∧ Rs K cl Hf H vs ds os Fp.z ∧ ∀ x ∈ os, x = .no := by
  cases h with
  | tupk h r ho hf => exact ⟨_, _, _, rfl, sqT_sub s h, r.fp hf, ho⟩
theorem R.isLsk (h : R1 K cl Hf H v (.lsk ds) o f) (s : Same Hf H) : ∃ (a : Addr) (vs : List V) (os : List Own), v = .ref a ∧ SqL K H a vs ∧ Rs K cl Hf H vs ds os Fp.z ∧ ∀ x ∈ os, x = .no := by
  cases h with
  | lsk h r ho hf => exact ⟨_, _, _, rfl, sqL_sub s h, r.fp hf, ho⟩
theorem R.isDic {kds : List (Key × D)} (h : R1 K cl Hf H v (.dic kds) o f) (s : Same Hf H) : ∃ (a : Addr) (kvs : List (Key × V)) (os : List Own) (g : Fp), v = .ref a ∧ H a = some (.dK kvs) ∧ kvs.map (·.1) = kds.map (·.1) ∧ Rs K cl Hf H (kvs.map (·.2)) (kds.map (·.2)) os g ∧ (∀ x ∈ os, x = o.item) ∧ ∀ b, g b ≤ f b := by
  cases h with
  | dicF h hk r ho hf => exact ⟨_, _, _, f, rfl, s _ _ h, hk, r, ho, fun b => Nat.le_refl _⟩
  | dicO h hn hk r ho hf => exact ⟨_, _, _, _, rfl, h, hk, r, ho, fun b => by rw [hf]; omega⟩
theorem R.isDit {kds : List (List Key × D)} (h : R1 K cl Hf H v (.dit kds) o f) (s : Same Hf H) : ∃ (a : Addr) (kvs : List (List Key × V)) (os : List Own) (g : Fp), v = .ref a ∧ H a = some (.dT kvs) ∧ kvs.map (·.1) = kds.map (·.1) ∧ Rs K cl Hf H (kvs.map (·.2)) (kds.map (·.2)) os g ∧ (∀ x ∈ os, x = o.item) ∧ ∀ b, g b ≤ f b := by
  cases h with
  | ditF h hk r ho hf => exact ⟨_, _, _, f, rfl, s _ _ h, hk, r, ho, fun b => Nat.le_refl _⟩
  | ditO h hn hk r ho hf => exact ⟨_, _, _, _, rfl, h, hk, r, ho, fun b => by rw [hf]; omega⟩
theorem R.isObj {c : String} {fds : List (String × D)} (h : R1 K cl Hf H v (.obj c fds) o f) (s : Same Hf H) : ∃ (a dx : Addr) (fvs : List (Str × V)) (os : List Own) (g : Fp), v = .ref a ∧ H a = some (.ins (cl c) dx fvs) ∧ fvs.map (·.1) = fds.map (fun p => Str.ofString p.1) ∧ Rs K cl Hf H (fvs.map (·.2)) (fds.map (·.2)) os g ∧ ∀ b, g b ≤ f b := by
  cases h with
  | objF h hk r ho hf => exact ⟨_, _, _, _, f, rfl, s _ _ h, hk, r, fun b => Nat.le_refl _⟩
  | objO h hn hk r ho hf => exact ⟨_, _, _, _, _, rfl, h, hk, r, fun b => by rw [hf]; omega⟩
theorem R.isInt {i : Int} (h : R1 K cl Hf H v (.int i) o f) : v = .int i ∧ o = .no := by cases h; exact ⟨rfl, rfl⟩
theorem R.isStr {x : Str} (h : R1 K cl Hf H v (.str x) o f) : v = .str x ∧ o = .no := by cases h; exact ⟨rfl, rfl⟩
theorem R.isBl {b : Bool} (h : R1 K cl Hf H v (.bl b) o f) : v = .bl b ∧ o = .no := by cases h; exact ⟨rfl, rfl⟩
theorem R.isNon (h : R1 K cl Hf H v .non o f) : v = .non ∧ o = .no := by cases h; exact ⟨rfl, rfl⟩
theorem r_int (i : Int) : R1 K cl Hf H (.int i) (.int i) .no Fp.z := .int i fun _ => rfl
theorem r_str (x : Str) : R1 K cl Hf H (.str x) (.str x) .no Fp.z := .str x fun _ => rfl
theorem r_bl (x : Bool) : R1 K cl Hf H (.bl x) (.bl x) .no Fp.z := .bl x fun _ => rfl
theorem r_non : R1 K cl Hf H .non .non .no Fp.z := .non fun _ => rfl
/-- a part of a row -/
theorem R.sub {vs : List V} {os : List Own} (r : Rs K cl Hf H vs ds os f) (ho : ∀ x ∈ os, x = .no) : ∀ {i : Nat} {d : D}, ds[i]? = some d → ∃ v, vs[i]? = some v ∧ R1 K cl Hf H v d .no Fp.z := by
  intro i d hi
  obtain ⟨v, o, g, k, h1, h2, h3, h4⟩ := r.getD hi
  have e := ho o (List.mem_of_getElem? h2)
  subst e
  exact ⟨v, h1, h3.fp h3.zero_of_no⟩
/-- rows of frozen data, item by item -/
theorem R.rows {vs : List V} (hl : vs.length = ds.length) (h : ∀ (i : Nat) (v : V) (d : D), vs[i]? = some v → ds[i]? = some d → R1 K cl Hf H v d .no Fp.z) : Rs K cl Hf H vs ds (List.replicate ds.length .no) Fp.z := by
  induction vs generalizing ds with
  | nil =>
    cases ds with
    | nil => exact .nil fun _ => rfl
    | cons d ds => cases hl
  | cons v vs ih =>
    cases ds with
    | nil => cases hl
    | cons d ds =>
      exact .cons (h 0 v d rfl rfl) (ih (by simpa using hl) fun i v d a b => h (i + 1) v d (by simpa using a) (by simpa using b)) fun _ => rfl
theorem R.nos {vs : List V} {os : List Own} (r : Rs K cl Hf H vs ds os f) (ho : ∀ x ∈ os, x = .no) : Rs K cl Hf H vs ds (List.replicate ds.length .no) Fp.z := by
  have e : os = List.replicate ds.length .no := by
    rw [← r.len.2]; exact List.eq_replicate_iff.mpr ⟨rfl, ho⟩
  rw [← e]; exact r.fp (r.zeros_of_no ho)
theorem R.drop {vs : List V} (n : Nat) (r : Rs K cl Hf H vs ds (List.replicate ds.length .no) Fp.z) : Rs K cl Hf H (vs.drop n) (ds.drop n) (List.replicate (ds.drop n).length .no) Fp.z := by
  refine R.rows (by simp [r.len.1]) fun i v d a b => ?_
  rw [List.getElem?_drop] at a b
  obtain ⟨v', h1, h2⟩ := R.sub r (fun x m => List.eq_of_mem_replicate m) b
  rw [a] at h1; cases h1; exact h2
theorem R.take {vs : List V} (n : Nat) (r : Rs K cl Hf H vs ds (List.replicate ds.length .no) Fp.z) : Rs K cl Hf H (vs.take n) (ds.take n) (List.replicate (ds.take n).length .no) Fp.z := by
  refine R.rows (by simp [r.len.1]) fun i v d a b => ?_
  rw [List.getElem?_take] at a b
  split at a
  · rename_i hi
    rw [if_pos hi] at b
    obtain ⟨v', h1, h2⟩ := R.sub r (fun x m => List.eq_of_mem_replicate m) b
    rw [a] at h1; cases h1; exact h2
  · cases a
theorem mem_rep {α : Type} {n : Nat} {a : α} : ∀ x ∈ List.replicate n a, x = a := fun x m => List.eq_of_mem_replicate m
end
/-! ### Results -/
section
variable {K : PySem.W.Frag} {cl : String → Addr} {C : Pc} {W : WX} {Hf H : Hp} {σ : L2.St} {ρ : Env} {fp : Fp} {p own : Bool} {Q : VK}
/-- nothing happened but that a frozen value came -/
theorem POk.keep {d : D} {v : V} {f : Fp} (h : POk K cl C p own σ Hf H fp Q (d, .no) ρ) (G : Good K cl C Hf H σ ρ fp) (r : R1 K cl Hf H v d .no f) : Q v H :=
  h.no G r Fr.refl fun _ => Quiet.refl fun b hb => (G.live b hb).2
/-- a new list, one's own, of frozen items -/
theorem POk.newL {ds : List D} {vs : List V} {q : Addr} (h : POk K cl C p own σ Hf H fp Q (.lst ds, .lst .no) ρ) (G : Good K cl C Hf H σ ρ fp) (r : Rs K cl Hf H vs ds (List.replicate ds.length .no) Fp.z) (hq : H q = none) : Q (.ref q) (upd H q (.lst vs)) := by
  have hfp : fp q = 0 := by
    by_cases e : fp q = 0
    · exact e
    · obtain ⟨⟨u, z⟩, _⟩ := G.live q e; rw [hq] at z; cases z
  refine h (.ref q) Hf (upd H q (.lst vs)) fp (fun b => (if b = q then 1 else 0) + Fp.z b) (G.alloc hq _) (.lstO upd_same (G.sub.free hq) (r.to (Same.refl _) fun b hb => absurd rfl hb) mem_rep fun b => rfl) (Fr.alloc hq _) (fun _ => ⟨fun b => ?_, fun b hb => ?_⟩) fun _ => G.quietA hq _
  · by_cases e : b = q
    · subst e; simp [Fp.z, hfp]
    · rw [if_neg e]; have := G.nd b; simp [Fp.z]; omega
  · by_cases e : b = q
    · subst e; exact .inr hq
    · rw [if_neg e] at hb; exact absurd rfl hb
theorem POk.newT {ds : List D} {vs : List V} {q : Addr} (h : POk K cl C p own σ Hf H fp Q (.tup ds, .no) ρ) (G : Good K cl C Hf H σ ρ fp) (r : Rs K cl Hf H vs ds (List.replicate ds.length .no) Fp.z) (hq : H q = none) : Q (.ref q) (upd H q (.tup vs)) := by
  have hn : Hf q = none := G.sub.free hq
  exact h.no (G.allocF hq _) (.tup upd_same (r.to (Same.newf hn _) fun b hb => absurd rfl hb) mem_rep fun b => rfl) (Fr.allocF hq hn _) fun _ => G.quietF hq _
end
/-! ### By values -/
section
variable (K : PySem.W.Frag) (cl : String → Addr) (C : Pc) (W : WX)
/-- a two-place operation's reading denotes f -/
def DR2 (p own : Bool) (r : R2) (f : DO → DO → M DO) : Prop := ∀ σ H Q ρ Hf fp (x y : DO) v1 v2 f1 f2, Good K cl C Hf H σ ρ fp → R1 K cl Hf H v1 x.1 x.2 f1 → R1 K cl Hf H v2 y.1 y.2 f2 →
  Wz K cl C W σ Hf H fp (f x y ρ) (POk K cl C p own σ Hf H fp Q) → r v1 v2 H Q
def DR1 (p own : Bool) (r : V → Hp → VK → Prop) (f : DO → M DO) : Prop := ∀ σ H Q ρ Hf fp (x : DO) v1 f1, Good K cl C Hf H σ ρ fp → R1 K cl Hf H v1 x.1 x.2 f1 →
  Wz K cl C W σ Hf H fp (f x ρ) (POk K cl C p own σ Hf H fp Q) → r v1 H Q
/-- a call's -/
def DRC (p own : Bool) (r : List V → Hp → VK → Prop) (f : List DO → M DO) : Prop := ∀ σ H Q ρ Hf fp (xs : List DO) vs f1, Good K cl C Hf H σ ρ fp → Rs K cl Hf H vs (xs.map (·.1)) (xs.map (·.2)) f1 →
  Wz K cl C W σ Hf H fp (f xs ρ) (POk K cl C p own σ Hf H fp Q) → r vs H Q
/-- a method's -/
def DRM (p own : Bool) (T : String) (r : V → List V → Hp → VK → Prop) (f : DO → List DO → M DO) : Prop := ∀ σ H Q ρ Hf fp (x : DO) (xs : List DO) v vs f0 f1, Good K cl C Hf H σ ρ fp → R1 K cl Hf H v x.1 x.2 f0 → Rs K cl Hf H vs (xs.map (·.1)) (xs.map (·.2)) f1 →
  Wz K cl C W σ Hf H fp (f x xs ρ) (POk K cl C p own σ Hf H fp Q) → tyV K T v H ∧ r v vs H Q
end
def gFlat2 (g : D → D → Option D) (x y : DO) : M DO := M.opt ((g x.1 y.1).map fun d => (d, .no))
def gFlat1 (g : D → Option D) (x : DO) : M DO := M.opt ((g x.1).map fun d => (d, .no))
section
variable {K : PySem.W.Frag} {cl : String → Addr} {C : Pc} {W : WX}
theorem DR2.flat {r : R2} {g : D → D → Option D} (h : ∀ (Hf H : Hp) (Q : VK) (x y d : D) (o1 o2 : Own) (v1 v2 : V) (f1 f2 : Fp), Same Hf H → R1 K cl Hf H v1 x o1 f1 → R1 K cl Hf H v2 y o2 f2 → g x y = some d → ∃ v f, R1 K cl Hf H v d .no f ∧ (Q v H → r v1 v2 H Q)) :
    DR2 K cl C W true true r (gFlat2 g) := by
  intro σ H Q ρ Hf fp x y v1 v2 f1 f2 G r1 r2 w
  unfold gFlat2 at w
  cases e : g x.1 y.1 with
  | none => rw [e] at w; exact False.elim w
  | some d =>
    rw [e] at w
    obtain ⟨v, f, rv, k⟩ := h Hf H Q x.1 y.1 d x.2 y.2 v1 v2 f1 f2 G.sub r1 r2 e
    exact k (POk.keep (p := true) (own := true) w G rv)
theorem DR1.flat {r : V → Hp → VK → Prop} {g : D → Option D} (h : ∀ (Hf H : Hp) (Q : VK) (x d : D) (o1 : Own) (v1 : V) (f1 : Fp), Same Hf H → R1 K cl Hf H v1 x o1 f1 → g x = some d → ∃ v f, R1 K cl Hf H v d .no f ∧ (Q v H → r v1 H Q)) :
    DR1 K cl C W true true r (gFlat1 g) := by
  intro σ H Q ρ Hf fp x v1 f1 G r1 w
  unfold gFlat1 at w
  cases e : g x.1 with
  | none => rw [e] at w; exact False.elim w
  | some d =>
    rw [e] at w
    obtain ⟨v, f, rv, k⟩ := h Hf H Q x.1 d x.2 v1 f1 G.sub r1 e
    exact k (POk.keep (p := true) (own := true) w G rv)
def gI2 (c : Int → Int → Bool) (g : Int → Int → D) : D → D → Option D
  | .int i, .int j => if c i j then some (g i j) else none
  | _, _ => none
theorem DR2.ints {r : R2} {c : Int → Int → Bool} {g : Int → Int → D} {gv : Int → Int → V} (h : ∀ i j H Q, c i j = true → Q (gv i j) H → r (.int i) (.int j) H Q) (hg : ∀ i j (Hf H : Hp), R1 K cl Hf H (gv i j) (g i j) .no Fp.z) : DR2 K cl C W true true r (gFlat2 (gI2 c g)) := by
  refine .flat fun Hf H Q x y d o1 o2 v1 v2 f1 f2 s r1 r2 e => ?_
  unfold gI2 at e
  split at e
  · rename_i i j
    obtain ⟨rfl, _⟩ := r1.isInt
    obtain ⟨rfl, _⟩ := r2.isInt
    split at e
    · rename_i hc
      cases e
      exact ⟨gv i j, Fp.z, hg i j Hf H, fun q => h i j H Q hc q⟩
    · cases e
  · cases e
end
end DL
/-! The operators. -/
namespace DL
open PySem PySem.Spec L2
/-! ### + -/
def gAdd (x y : DO) : M DO := fun ρ => match x.1, y.1 with
  | .int i, .int j => .ok (.int (i + j), .no) ρ
  | .str a, .str b => if a.length + b.length ≤ sizeLine then .ok (.str (a ++ b), .no) ρ else .stuck
  | .lst a, .lst b => if x.2.fl = true ∧ y.2.fl = true ∧ a.length + b.length ≤ sizeLine then .ok (.lst (a ++ b), .lst .no) ρ else .stuck
  | .tup a, .tup b => if a.length + b.length ≤ sizeLine then .ok (.tup (a ++ b), .no) ρ else .stuck
  | _, _ => .stuck
def gSub (x y : DO) : M DO := gFlat2 (gI2 (fun _ _ => true) fun i j => .int (i - j)) x y
def mulC (i j : Int) : Bool := decide (((-(2 ^ 64) < i ∧ i < 2 ^ 64) ∨ (-(2 ^ 64) < j ∧ j < 2 ^ 64)) ∨ i.natAbs.log2 + j.natAbs.log2 < 1000000)
def CMulA (i j : Int) : Prop := CMul i j ∨ CMulW i j
theorem op_mulA {X : Cx} : OpR X (binaryOp .Mult) (rI CMulA fun i j => .int (i * j)) := by
  intro pins s σ H x y v u Q I rx ry h
  obtain ⟨i, j, ex, ey, hc, q⟩ := h
  rcases hc with hc | hc
  · exact op_mul pins s σ H x y v u Q I rx ry ⟨i, j, ex, ey, hc, q⟩
  · exact op_mulW pins s σ H x y v u Q I rx ry ⟨i, j, ex, ey, hc, q⟩
def divC (_ j : Int) : Bool := decide (0 < j ∧ j.natAbs.log2 < 9000)
def powC (i j : Int) : Bool := decide (0 ≤ j ∧ j ≤ 1000000 ∧ i.natAbs < 2 ^ 64)
def gMul (x y : DO) : M DO := gFlat2 (gI2 mulC fun i j => .int (i * j)) x y
def gDiv (x y : DO) : M DO := gFlat2 (gI2 divC fun i j => .int (i / j)) x y
def gMod (x y : DO) : M DO := gFlat2 (gI2 (fun _ j => decide (0 < j)) fun i j => .int (i % j)) x y
def gPow (x y : DO) : M DO := gFlat2 (gI2 powC fun i j => .int (i ^ j.toNat)) x y
def gLt (x y : DO) : M DO := gFlat2 (fun a b => match a, b with
  | .int i, .int j => some (.bl (decide (i < j)))
  | .str i, .str j => some (.bl (decide (i.cps.toList < j.cps.toList)))
  | _, _ => none) x y
def gLe (x y : DO) : M DO := gFlat2 (fun a b => match a, b with
  | .int i, .int j => some (.bl (decide (i ≤ j)))
  | .str i, .str j => some (.bl (!decide (j.cps.toList < i.cps.toList)))
  | _, _ => none) x y
def gGt (x y : DO) : M DO := gFlat2 (fun a b => match a, b with
  | .int i, .int j => some (.bl (decide (j < i)))
  | .str i, .str j => some (.bl (decide (j.cps.toList < i.cps.toList)))
  | _, _ => none) x y
def gGe (x y : DO) : M DO := gFlat2 (fun a b => match a, b with
  | .int i, .int j => some (.bl (decide (j ≤ i)))
  | .str i, .str j => some (.bl (!decide (i.cps.toList < j.cps.toList)))
  | _, _ => none) x y
/-! ### == -/
mutual
def toP : D → Option PyData
  | .non => some .none
  | .bl b => some (.bool b)
  | .int i => some (.int i)
  | .str x => some (.str x)
  | .tup xs => (toPs xs).map .tuple
  | .tupk xs => (toPs xs).map .tuple
  | .lst xs => (toPs xs).map .list
  | _ => none
def toPs : List D → Option (List PyData)
  | [] => some []
  | x :: r => match toP x, toPs r with
    | some a, some b => some (a :: b)
    | _, _ => none
end
def scalD : D → D → Option Bool
  | .non, .non => some true
  | .non, .int _ => some false | .int _, .non => some false | .non, .bl _ => some false | .bl _, .non => some false | .non, .str _ => some false | .str _, .non => some false
  | .int i, .int j => some (decide (i = j))
  | .bl i, .bl j => some (decide (i = j))
  | .str i, .str j => some (decide (i = j))
  | .int _, .str _ => some false | .str _, .int _ => some false | .bl _, .str _ => some false | .str _, .bl _ => some false
  | _, _ => none
def dEq (x y : D) : Option Bool := match scalD x y with
  | some b => some b
  | none => match toP x, toP y with
    | some a, some b => if SeqAt.shaped a = true ∧ SeqAt.shaped b = true then some (PyData.eqv a b) else none
    | _, _ => none
def gEq (x y : DO) : M DO := gFlat2 (fun a b => (dEq a b).map .bl) x y
def gNe (x y : DO) : M DO := gFlat2 (fun a b => (dEq a b).map fun k => .bl (!k)) x y
def gIsN (x y : DO) : M DO := gFlat2 (fun a b => match b with
  | .non => (match a with | .non => some (.bl true) | .hole => none | _ => some (.bl false))
  | .bl k => (match a with | .bl j => some (.bl (decide (j = k))) | _ => none)
  | _ => none) x y
def gIsNot (x y : DO) : M DO := gFlat2 (fun a b => match b with
  | .non => (match a with | .non => some (.bl false) | .hole => none | _ => some (.bl true))
  | .bl k => (match a with | .bl j => some (.bl (!decide (j = k))) | _ => none)
  | _ => none) x y
section
variable {K : PySem.W.Frag} {cl : String → Addr} {C : Pc} {W : WX} {Hf H : Hp}
theorem dr_sub : DR2 K cl C W true true (rI0 fun i j => .int (i - j)) gSub :=
  .ints (gv := fun i j => .int (i - j)) (fun i j H Q _ q => ⟨i, j, rfl, rfl, q⟩) fun i j Hf H => r_int _
theorem dr_mul : DR2 K cl C W true true (rI CMulA fun i j => .int (i * j)) gMul :=
  .ints (gv := fun i j => .int (i * j)) (fun i j H Q c q => ⟨i, j, rfl, rfl, of_decide_eq_true (p := ((-(2 ^ 64) < i ∧ i < 2 ^ 64) ∨ (-(2 ^ 64) < j ∧ j < 2 ^ 64)) ∨ i.natAbs.log2 + j.natAbs.log2 < 1000000) c, q⟩) fun i j Hf H => r_int _
theorem dr_div : DR2 K cl C W true true (rI CDivW fun i j => .int (i / j)) gDiv :=
  .ints (gv := fun i j => .int (i / j)) (fun i j H Q c q => ⟨i, j, rfl, rfl, by first | exact of_decide_eq_true (p := i.natAbs.log2 + j.natAbs.log2 < 1000000) c | exact of_decide_eq_true (p := 0 < j ∧ j.natAbs.log2 < 9000) c | exact of_decide_eq_true (p := 0 ≤ j ∧ j ≤ 1000000 ∧ i.natAbs < 2 ^ 64) c | exact of_decide_eq_true (p := 0 < j) c, q⟩) fun i j Hf H => r_int _
theorem dr_mod : DR2 K cl C W true true (rI (fun _ j => 0 < j) fun i j => .int (i % j)) gMod :=
  .ints (gv := fun i j => .int (i % j)) (fun i j H Q c q => ⟨i, j, rfl, rfl, by first | exact of_decide_eq_true (p := i.natAbs.log2 + j.natAbs.log2 < 1000000) c | exact of_decide_eq_true (p := 0 < j ∧ j.natAbs.log2 < 9000) c | exact of_decide_eq_true (p := 0 ≤ j ∧ j ≤ 1000000 ∧ i.natAbs < 2 ^ 64) c | exact of_decide_eq_true (p := 0 < j) c, q⟩) fun i j Hf H => r_int _
theorem dr_pow : DR2 K cl C W true true (rI CPow fun i j => .int (i ^ j.toNat)) gPow :=
  .ints (gv := fun i j => .int (i ^ j.toNat)) (fun i j H Q c q => ⟨i, j, rfl, rfl, by first | exact of_decide_eq_true (p := i.natAbs.log2 + j.natAbs.log2 < 1000000) c | exact of_decide_eq_true (p := 0 < j ∧ j.natAbs.log2 < 9000) c | exact of_decide_eq_true (p := 0 ≤ j ∧ j ≤ 1000000 ∧ i.natAbs < 2 ^ 64) c | exact of_decide_eq_true (p := 0 < j) c, q⟩) fun i j Hf H => r_int _
/-- frozen items, as a row of theirs -/
theorem R.rowO {ds : List D} {o : Own} {v : V} {f : Fp} (r : R1 K cl Hf H v (.lst ds) o f) (s : Same Hf H) (h : o.fl = true) : ∃ (a : Addr) (vs : List V), v = .ref a ∧ H a = some (.lst vs) ∧ Rs K cl Hf H vs ds (List.replicate ds.length .no) Fp.z ∧ vs.length = ds.length := by
  obtain ⟨a, vs, os, g, e, ha, rs, ho, _⟩ := r.isLst s
  rw [Own.fl_item h] at ho
  exact ⟨a, vs, e, ha, rs.nos ho, rs.len.1⟩
theorem R.rowT {ds : List D} {o : Own} {v : V} {f : Fp} (r : R1 K cl Hf H v (.tup ds) o f) (s : Same Hf H) : ∃ (a : Addr) (vs : List V), v = .ref a ∧ H a = some (.tup vs) ∧ Hf a = some (.tup vs) ∧ Rs K cl Hf H vs ds (List.replicate ds.length .no) Fp.z ∧ vs.length = ds.length := by
  obtain ⟨a, vs, os, e, ha, hb, rs, ho⟩ := r.isTup s
  exact ⟨a, vs, e, ha, hb, rs.nos ho, rs.len.1⟩
theorem R.app {vs ws : List V} {ds es : List D} (r : Rs K cl Hf H vs ds (List.replicate ds.length .no) Fp.z) (q : Rs K cl Hf H ws es (List.replicate es.length .no) Fp.z) : Rs K cl Hf H (vs ++ ws) (ds ++ es) (List.replicate (ds ++ es).length .no) Fp.z := by
  have := r.append q
  rw [List.length_append, ← List.replicate_append_replicate]
  exact this.fp fun b => rfl
def rAddA (K : PySem.W.Frag) : R2 := fun x y H Q => rI0 (fun i j => .int (i + j)) x y H Q ∨ (∃ i j, x = .str i ∧ y = .str j ∧ i.length + j.length ≤ sizeLine ∧ Q (.str (i ++ j)) H) ∨ rCat x y H Q ∨ rCatA K x y H Q
theorem op_addA {X : Cx} : OpR X (binaryOp .Add) (rAddA X.K) := OpR.or op_add (OpR.or op_add_str (OpR.or op_cat op_catA))
theorem dr_add : DR2 K cl C W true true (rAddA K) gAdd := by
  intro σ H Q ρ Hf fp x y v1 v2 f1 f2 G r1 r2 w
  unfold gAdd at w
  split at w
  · rename_i i j e1 e2
    rw [e1] at r1; rw [e2] at r2
    obtain ⟨rfl, _⟩ := r1.isInt
    obtain ⟨rfl, _⟩ := r2.isInt
    exact .inl ⟨i, j, rfl, rfl, POk.keep w G (r_int _)⟩
  · rename_i a b e1 e2
    rw [e1] at r1; rw [e2] at r2
    obtain ⟨rfl, _⟩ := r1.isStr
    obtain ⟨rfl, _⟩ := r2.isStr
    split at w
    · rename_i h
      exact .inr (.inl ⟨a, b, rfl, rfl, h, POk.keep w G (r_str _)⟩)
    · exact False.elim w
  · rename_i a b e1 e2
    rw [e1] at r1; rw [e2] at r2
    split at w
    · rename_i h
      obtain ⟨p, vs, rfl, hp, rs, l1⟩ := r1.rowO G.sub h.1
      obtain ⟨q, ws, rfl, hq, qs, l2⟩ := r2.rowO G.sub h.2.1
      refine .inr (.inr (.inl ⟨p, q, vs, ws, rfl, rfl, hp, hq, by rw [l1, l2]; exact h.2.2, fun t ht => POk.newL w G (rs.app qs) ht⟩))
    · exact False.elim w
  · rename_i a b e1 e2
    rw [e1] at r1; rw [e2] at r2
    split at w
    · rename_i h
      obtain ⟨p, vs, rfl, hp, hp', rs, l1⟩ := r1.rowT G.sub
      obtain ⟨q, ws, rfl, hq, hq', qs, l2⟩ := r2.rowT G.sub
      refine .inr (.inr (.inr ⟨p, q, vs, ws, rfl, rfl, SqT.of hp, SqT.of hq, by rw [l1, l2]; exact h, fun e => ?_, fun e1 e2 => ?_, fun e1 e2 t ht => POk.newT w G (rs.app qs) ht⟩))
      · subst e
        have ea : a = [] := by cases a; rfl; cases l1
        subst ea
        exact POk.keep w G (.tup (f := Fp.z) hq' qs mem_rep fun _ => rfl)
      · subst e2
        have eb : b = [] := by cases b; rfl; cases l2
        subst eb
        refine POk.keep (d := .tup (a ++ [])) (f := Fp.z) w G ?_
        rw [List.append_nil]
        exact .tup (f := Fp.z) hp' rs mem_rep fun _ => rfl
    · exact False.elim w
  · exact False.elim w
/-! comparisons -/
theorem dr_cmp {r : R2} {gi : Int → Int → Bool} {gs : Str → Str → Bool} {g : D → D → Option D} (hg : ∀ x y d, g x y = some d → (∃ i j, x = .int i ∧ y = .int j ∧ d = .bl (gi i j)) ∨ ∃ i j, x = .str i ∧ y = .str j ∧ d = .bl (gs i j))
    (h : ∀ v1 v2 H Q, (∃ i j, v1 = .int i ∧ v2 = .int j ∧ Q (.bl (gi i j)) H) ∨ (∃ i j, v1 = .str i ∧ v2 = .str j ∧ Q (.bl (gs i j)) H) → r v1 v2 H Q) : DR2 K cl C W true true r (gFlat2 g) := by
  refine .flat fun Hf H Q x y d o1 o2 v1 v2 f1 f2 s r1 r2 e => ?_
  rcases hg x y d e with ⟨i, j, rfl, rfl, rfl⟩ | ⟨i, j, rfl, rfl, rfl⟩
  · obtain ⟨rfl, _⟩ := r1.isInt
    obtain ⟨rfl, _⟩ := r2.isInt
    exact ⟨_, _, r_bl _, fun q => h _ _ H Q (.inl ⟨i, j, rfl, rfl, q⟩)⟩
  · obtain ⟨rfl, _⟩ := r1.isStr
    obtain ⟨rfl, _⟩ := r2.isStr
    exact ⟨_, _, r_bl _, fun q => h _ _ H Q (.inr ⟨i, j, rfl, rfl, q⟩)⟩
def rCmpA (gi : Int → Int → Bool) (gs : Str → Str → Bool) : R2 := fun x y H Q => rI0 (fun i j => .bl (gi i j)) x y H Q ∨ ∃ i j, x = .str i ∧ y = .str j ∧ Q (.bl (gs i j)) H
abbrev rLtA := rCmpA (fun i j => decide (i < j)) fun i j => decide (i.cps.toList < j.cps.toList)
abbrev rLeA := rCmpA (fun i j => decide (i ≤ j)) fun i j => !decide (j.cps.toList < i.cps.toList)
abbrev rGtA := rCmpA (fun i j => decide (j < i)) fun i j => decide (j.cps.toList < i.cps.toList)
abbrev rGeA := rCmpA (fun i j => decide (j ≤ i)) fun i j => !decide (i.cps.toList < j.cps.toList)
theorem op_ltA {X : Cx} : OpR X (compareOp .Lt) rLtA := OpR.or op_lt op_lt_str
theorem op_leA {X : Cx} : OpR X (compareOp .LtE) rLeA := OpR.or op_le op_le_str
theorem op_gtA {X : Cx} : OpR X (compareOp .Gt) rGtA := OpR.or op_gt op_gt_str
theorem op_geA {X : Cx} : OpR X (compareOp .GtE) rGeA := OpR.or op_ge op_ge_str
theorem dr_lt : DR2 K cl C W true true rLtA gLt := dr_cmp (fun x y d e => by
  split at e
  · cases e; exact .inl ⟨_, _, rfl, rfl, rfl⟩
  · cases e; exact .inr ⟨_, _, rfl, rfl, rfl⟩
  · cases e) fun v1 v2 H Q h => h
theorem dr_le : DR2 K cl C W true true rLeA gLe := dr_cmp (fun x y d e => by
  split at e
  · cases e; exact .inl ⟨_, _, rfl, rfl, rfl⟩
  · cases e; exact .inr ⟨_, _, rfl, rfl, rfl⟩
  · cases e) fun v1 v2 H Q h => h
theorem dr_gt : DR2 K cl C W true true rGtA gGt := dr_cmp (fun x y d e => by
  split at e
  · cases e; exact .inl ⟨_, _, rfl, rfl, rfl⟩
  · cases e; exact .inr ⟨_, _, rfl, rfl, rfl⟩
  · cases e) fun v1 v2 H Q h => h
theorem dr_ge : DR2 K cl C W true true rGeA gGe := dr_cmp (fun x y d e => by
  split at e
  · cases e; exact .inl ⟨_, _, rfl, rfl, rfl⟩
  · cases e; exact .inr ⟨_, _, rfl, rfl, rfl⟩
  · cases e) fun v1 v2 H Q h => h
/-! == of data -/
theorem toP_all : ∀ {x y z} {f : Fp}, R K cl Hf H x y z f → Same Hf H → (∀ v d p, x = .inl v → y = .inl d → toP d = some p → Dp K H v p) ∧ ∀ vs ds ps, x = .inr vs → y = .inr ds → toPs ds = some ps → DpAll K H vs ps := by
  intro x y z f h s
  induction h with
  | non hf => exact ⟨fun v d p e1 e2 e => by cases e1; cases e2; cases e; exact .non, fun _ _ _ e => nomatch e⟩
  | bl x hf => exact ⟨fun v d p e1 e2 e => by cases e1; cases e2; cases e; exact .bl _, fun _ _ _ e => nomatch e⟩
  | int x hf => exact ⟨fun v d p e1 e2 e => by cases e1; cases e2; cases e; exact .int _, fun _ _ _ e => nomatch e⟩
  | str x hf => exact ⟨fun v d p e1 e2 e => by cases e1; cases e2; cases e; exact .str _, fun _ _ _ e => nomatch e⟩
  | tup h r ho hf ih =>
    refine ⟨fun v d p e1 e2 e => ?_, fun _ _ _ e => nomatch e⟩
    cases e1; cases e2
    rw [toP] at e
    cases q : toPs _ with
    | none => rw [q] at e; cases e
    | some ps => rw [q] at e; cases e; exact .tup (SqT.of (s _ _ h)) (ih.2 _ _ _ rfl rfl q)
  | tupk h r ho hf ih =>
    refine ⟨fun v d p e1 e2 e => ?_, fun _ _ _ e => nomatch e⟩
    cases e1; cases e2
    rw [toP] at e
    cases q : toPs _ with
    | none => rw [q] at e; cases e
    | some ps => rw [q] at e; cases e; exact .tup (sqT_sub s h) (ih.2 _ _ _ rfl rfl q)
  | lstF h r ho hf ih =>
    refine ⟨fun v d p e1 e2 e => ?_, fun _ _ _ e => nomatch e⟩
    cases e1; cases e2
    rw [toP] at e
    cases q : toPs _ with
    | none => rw [q] at e; cases e
    | some ps => rw [q] at e; cases e; exact .lst (SqL.of (s _ _ h)) (ih.2 _ _ _ rfl rfl q)
  | lstO h hn r ho hf ih =>
    refine ⟨fun v d p e1 e2 e => ?_, fun _ _ _ e => nomatch e⟩
    cases e1; cases e2
    rw [toP] at e
    cases q : toPs _ with
    | none => rw [q] at e; cases e
    | some ps => rw [q] at e; cases e; exact .lst (SqL.of h) (ih.2 _ _ _ rfl rfl q)
  | nil hf =>
    refine ⟨fun _ _ _ e => (by cases e), fun vs ds ps e1 e2 e => ?_⟩
    cases e1; cases e2; rw [toPs] at e; cases e; exact .nil
  | cons r rs hf ih1 ih2 =>
    refine ⟨fun _ _ _ e => (by cases e), fun vs ds ps e1 e2 e => ?_⟩
    cases e1; cases e2
    rw [toPs] at e
    split at e
    · rename_i a b q1 q2
      cases e
      exact .cons (ih1.1 _ _ _ rfl rfl q1) (ih2.2 _ _ _ rfl rfl q2)
    · cases e
  | _ => exact ⟨fun v d p e1 e2 e => by cases e1; cases e2; rw [toP] at e <;> first | cases e | (intros; nofun), fun _ _ _ e => nomatch e⟩
theorem R.dp {v : V} {d : D} {o : Own} {f : Fp} {p : PyData} (r : R1 K cl Hf H v d o f) (s : Same Hf H) (e : toP d = some p) : Dp K H v p := (toP_all r s).1 _ _ _ rfl rfl e
def rEqA (K : PySem.W.Frag) : R2 := fun x y H Q => rEq x y H Q ∨ rEqD K x y H Q
def rNeA (K : PySem.W.Frag) : R2 := fun x y H Q => rNe x y H Q ∨ rNeD K x y H Q
theorem op_eqA {X : Cx} (hu : X.A.units + 64 < cLine) : OpR X (compareOp .Eq) (rEqA X.K) := OpR.or op_eq (op_eqD hu)
theorem op_neA {X : Cx} (hu : X.A.units + 64 < cLine) : OpR X (compareOp .NotEq) (rNeA X.K) := OpR.or op_ne (op_neD hu)
theorem scal_of {x y : D} {k : Bool} {o1 o2 : Own} {v1 v2 : V} {f1 f2 : Fp} (r1 : R1 K cl Hf H v1 x o1 f1) (r2 : R1 K cl Hf H v2 y o2 f2) (e : scalD x y = some k) : scal v1 v2 = true ∧ decide (v1 = v2) = k := by
  unfold scalD at e
  split at e <;> first | (cases e; done) | (cases r1; cases r2; cases e; constructor <;> simp [scal])
theorem dr_eq : DR2 K cl C W true true (rEqA K) gEq := by
  refine .flat fun Hf H Q x y d o1 o2 v1 v2 f1 f2 s r1 r2 e => ?_
  cases q : dEq x y with
  | none => rw [q] at e; cases e
  | some k =>
    rw [q] at e
    cases e
    refine ⟨_, _, r_bl k, fun h => ?_⟩
    unfold dEq at q
    split at q
    · rename_i b hb
      cases q
      obtain ⟨h1, h2⟩ := scal_of r1 r2 hb
      exact .inl ⟨h1, by rw [h2]; exact h⟩
    · split at q
      · rename_i a b h1 h2
        split at q
        · rename_i hs
          cases q
          exact .inr ⟨a, b, r1.dp s h1, r2.dp s h2, hs.1, hs.2, h⟩
        · cases q
      · cases q
theorem dr_ne : DR2 K cl C W true true (rNeA K) gNe := by
  refine .flat fun Hf H Q x y d o1 o2 v1 v2 f1 f2 s r1 r2 e => ?_
  cases q : dEq x y with
  | none => rw [q] at e; cases e
  | some k =>
    rw [q] at e
    cases e
    refine ⟨_, _, r_bl (!k), fun h => ?_⟩
    unfold dEq at q
    split at q
    · rename_i b hb
      cases q
      obtain ⟨h1, h2⟩ := scal_of r1 r2 hb
      exact .inl ⟨h1, by rw [h2]; exact h⟩
    · split at q
      · rename_i a b h1 h2
        split at q
        · rename_i hs
          cases q
          exact .inr ⟨a, b, r1.dp s h1, r2.dp s h2, hs.1, hs.2, h⟩
        · cases q
      · cases q
/-! is -/
def rIsA : R2 := fun x y H Q => (y = .non ∧ Q (.bl (decide (x = .non))) H) ∨ rIsB x y H Q
def rIsNotA : R2 := fun x y H Q => (y = .non ∧ Q (.bl (!decide (x = .non))) H) ∨ rNotB x y H Q
theorem op_isA {X : Cx} : OpR X (compareOp .Is) rIsA := OpR.or op_isN op_isBl
theorem op_isNotA {X : Cx} : OpR X (compareOp .IsNot) rIsNotA := OpR.or op_notN op_notBl
theorem R.not_non {v : V} {d : D} {o : Own} {f : Fp} (r : R1 K cl Hf H v d o f) (h1 : d ≠ .non) (h2 : d ≠ .hole) : v ≠ .non := by
  cases r <;> first | (intro e; cases e; done) | exact absurd rfl h1 | exact absurd rfl h2
theorem dr_is : DR2 K cl C W true true rIsA gIsN := by
  refine .flat fun Hf H Q x y d o1 o2 v1 v2 f1 f2 s r1 r2 e => ?_
  split at e
  · obtain ⟨rfl, _⟩ := r2.isNon
    split at e
    · cases e
      obtain ⟨rfl, _⟩ := r1.isNon
      exact ⟨_, _, r_bl true, fun q => .inl ⟨rfl, q⟩⟩
    · cases e
    · rename_i h1 h2
      cases e
      have n := r1.not_non h1 h2
      exact ⟨_, _, r_bl false, fun q => .inl ⟨rfl, by rw [decide_eq_false n]; exact q⟩⟩
  · obtain ⟨rfl, _⟩ := r2.isBl
    split at e
    · cases e
      obtain ⟨rfl, _⟩ := r1.isBl
      exact ⟨_, _, r_bl _, fun q => .inr ⟨_, _, rfl, rfl, q⟩⟩
    · cases e
  · cases e
theorem dr_isNot : DR2 K cl C W true true rIsNotA gIsNot := by
  refine .flat fun Hf H Q x y d o1 o2 v1 v2 f1 f2 s r1 r2 e => ?_
  split at e
  · obtain ⟨rfl, _⟩ := r2.isNon
    split at e
    · cases e
      obtain ⟨rfl, _⟩ := r1.isNon
      exact ⟨_, _, r_bl false, fun q => .inl ⟨rfl, q⟩⟩
    · cases e
    · rename_i h1 h2
      cases e
      have n := r1.not_non h1 h2
      exact ⟨_, _, r_bl true, fun q => .inl ⟨rfl, by rw [decide_eq_false n]; exact q⟩⟩
  · obtain ⟨rfl, _⟩ := r2.isBl
    split at e
    · cases e
      obtain ⟨rfl, _⟩ := r1.isBl
      exact ⟨_, _, r_bl _, fun q => .inr ⟨_, _, rfl, rfl, q⟩⟩
    · cases e
  · cases e
end
end DL
/-! Subscripts, slices, in, built-in calls and methods. -/
namespace DL
open PySem PySem.Spec L2
/-! ### x[i] -/
def gIx (x y : DO) : M DO := fun ρ => match x.1, y.1 with
  | .lst ds, .int i => (match atI ds i with | some d => if x.2.fl = true then .ok (d, .no) ρ else .stuck | none => .stuck)
  | .tup ds, .int i => (match atI ds i with | some d => .ok (d, .no) ρ | none => .stuck)
  | .tupk ds, .int i => (match atI ds i with | some d => .ok (d, .no) ρ | none => .stuck)
  | .lsk ds, .int i => (match atI ds i with | some d => .ok (d, .no) ρ | none => .stuck)
  | .str s, .int i => (match atI s.cps.toList i with | some c => if s.length ≤ sizeLine then .ok (.str ⟨#[c]⟩, .no) ρ else .stuck | none => .stuck)
  | _, _ => .stuck
section
variable {K : PySem.W.Frag} {cl : String → Addr} {C : Pc} {W : WX} {Hf H : Hp}
theorem atI_rel {vs : List V} {ds : List D} {i : Int} {d : D} (r : Rs K cl Hf H vs ds (List.replicate ds.length .no) Fp.z) (h : atI ds i = some d) : ∃ v, atI vs i = some v ∧ R1 K cl Hf H v d .no Fp.z := by
  unfold atI at h ⊢
  rw [r.len.1]
  cases e : ixN ds.length i with
  | none => rw [e] at h; cases h
  | some j =>
    rw [e] at h
    exact R.sub r mem_rep h
theorem dr_ix : DR2 K cl C W true true (rIx K) gIx := by
  intro σ H Q ρ Hf fp x y v1 v2 f1 f2 G r1 r2 w
  unfold gIx at w
  split at w
  · rename_i ds i e1 e2
    rw [e1] at r1; rw [e2] at r2
    obtain ⟨rfl, _⟩ := r2.isInt
    split at w
    · rename_i d hd
      split at w
      · rename_i h
        obtain ⟨p, vs, rfl, hp, rs, l1⟩ := r1.rowO G.sub h
        obtain ⟨v, hv, rv⟩ := atI_rel rs hd
        exact .inl ⟨p, vs, i, v, rfl, rfl, SqL.of hp, hv, POk.keep w G rv⟩
      · exact False.elim w
    · exact False.elim w
  · rename_i ds i e1 e2
    rw [e1] at r1; rw [e2] at r2
    obtain ⟨rfl, _⟩ := r2.isInt
    split at w
    · rename_i d hd
      obtain ⟨p, vs, rfl, hp, _, rs, l1⟩ := r1.rowT G.sub
      obtain ⟨v, hv, rv⟩ := atI_rel rs hd
      exact .inr (.inl ⟨p, vs, i, v, rfl, rfl, SqT.of hp, hv, POk.keep w G rv⟩)
    · exact False.elim w
  · rename_i ds i e1 e2
    rw [e1] at r1; rw [e2] at r2
    obtain ⟨rfl, _⟩ := r2.isInt
    split at w
    · rename_i d hd
      obtain ⟨p, vs, os, rfl, hp, rs, ho⟩ := r1.isTupk G.sub
      obtain ⟨v, hv, rv⟩ := atI_rel (rs.nos ho) hd
      exact .inr (.inl ⟨p, vs, i, v, rfl, rfl, hp, hv, POk.keep w G rv⟩)
    · exact False.elim w
  · rename_i ds i e1 e2
    rw [e1] at r1; rw [e2] at r2
    obtain ⟨rfl, _⟩ := r2.isInt
    split at w
    · rename_i d hd
      obtain ⟨p, vs, os, rfl, hp, rs, ho⟩ := r1.isLsk G.sub
      obtain ⟨v, hv, rv⟩ := atI_rel (rs.nos ho) hd
      exact .inl ⟨p, vs, i, v, rfl, rfl, hp, hv, POk.keep w G rv⟩
    · exact False.elim w
  · rename_i s i e1 e2
    rw [e1] at r1; rw [e2] at r2
    obtain ⟨rfl, _⟩ := r1.isStr
    obtain ⟨rfl, _⟩ := r2.isInt
    split at w
    · rename_i c hc
      split at w
      · rename_i h
        exact .inr (.inr ⟨s, i, c, rfl, rfl, h, hc, POk.keep w G (r_str _)⟩)
      · exact False.elim w
    · exact False.elim w
  · exact False.elim w
/-! ### x[lo:hi] -/
def cutL {α : Type} (xs : List α) (lo hi : Option Int) : List α := (xs.drop (HT.sIx xs.length 0 lo)).take (HT.sIx xs.length xs.length hi - HT.sIx xs.length 0 lo)
def gSl (x : DO) (lo hi : Option Int) : M DO := fun ρ => match x.1 with
  | .lst ds => if x.2.fl = true then .ok (.lst (cutL ds lo hi), .lst .no) ρ else .stuck
  | .lsk ds => .ok (.lst (cutL ds lo hi), .lst .no) ρ
  | .tup ds => .ok (.tup (cutL ds lo hi), .no) ρ
  | .str s => if s.length ≤ sizeLine then .ok (.str (cutS s lo hi), .no) ρ else .stuck
  | _ => .stuck
def rSlAll (K : PySem.W.Frag) : V → Option Int → Option Int → Hp → VK → Prop := fun x lo hi H Q => rSlL K x lo hi H Q ∨ rSlA K x lo hi H Q ∨ rSlS x lo hi H Q
theorem sl_all {X : Cx} : SlR X (rSlAll X.K) := sl_list.or (sl_tupA.or sl_str)
theorem R.cut {vs : List V} {ds : List D} (r : Rs K cl Hf H vs ds (List.replicate ds.length .no) Fp.z) (lo hi : Option Int) : Rs K cl Hf H (cutV vs lo hi) (cutL ds lo hi) (List.replicate (cutL ds lo hi).length .no) Fp.z := by
  unfold cutV cutL
  rw [r.len.1]
  exact (r.drop _).take _
theorem dr_sl {σ : L2.St} {Q : VK} {ρ : Env} {fp : Fp} {x : DO} {lo hi : Option Int} {v1 : V} {f1 : Fp} (G : Good K cl C Hf H σ ρ fp) (r1 : R1 K cl Hf H v1 x.1 x.2 f1) (w : Wz K cl C W σ Hf H fp (gSl x lo hi ρ) (POk K cl C true true σ Hf H fp Q)) : rSlAll K v1 lo hi H Q := by
  unfold gSl at w
  split at w
  · rename_i ds e1
    rw [e1] at r1
    split at w
    · rename_i h
      obtain ⟨p, vs, rfl, hp, rs, l1⟩ := r1.rowO G.sub h
      exact .inl ⟨p, vs, rfl, SqL.of hp, fun q hq => POk.newL w G (rs.cut lo hi) hq⟩
    · exact False.elim w
  · rename_i ds e1
    rw [e1] at r1
    obtain ⟨p, vs, os, rfl, hp, rs, ho⟩ := r1.isLsk G.sub
    exact .inl ⟨p, vs, rfl, hp, fun q hq => POk.newL w G ((rs.nos ho).cut lo hi) hq⟩
  · rename_i ds e1
    rw [e1] at r1
    obtain ⟨p, vs, rfl, hp, hp', rs, l1⟩ := r1.rowT G.sub
    refine .inr (.inl ⟨p, vs, rfl, SqT.of hp, fun e => ?_, fun e q hq => POk.newT w G (rs.cut lo hi) hq⟩)
    have ec : cutL ds lo hi = ds := by
      unfold cutL
      rw [← l1, e.1, e.2, l1]; simp
    refine POk.keep (d := .tup (cutL ds lo hi)) (f := Fp.z) w G ?_
    rw [ec]
    exact .tup hp' rs mem_rep fun _ => rfl
  · rename_i s e1
    rw [e1] at r1
    obtain ⟨rfl, _⟩ := r1.isStr
    split at w
    · rename_i h
      exact .inr (.inr ⟨s, rfl, h, POk.keep w G (r_str _)⟩)
    · exact False.elim w
  · exact False.elim w
/-! ### in -/
def flatD : D → Bool
  | .non => true | .bl _ => true | .int _ => true | .str _ => true | _ => false
def eqFD : D → D → Bool
  | .non, .non => true
  | .bl a, .bl b => a == b
  | .bl a, .int b => (if a then 1 else 0) == b
  | .int a, .bl b => a == (if b then 1 else 0)
  | .int a, .int b => a == b
  | .str a, .str b => a == b
  | _, _ => false
def inFD (x : D) (xs : List D) : Bool := xs.any fun y => eqFD y x
def strIn (a b : Str) : Bool := !(Builtin.Str.occurrences b a 0 b.length 1).isEmpty
def dIn (x y : D) : Option Bool := match y with
  | .lst ds => if flatD x = true ∧ ds.all flatD = true then some (inFD x ds) else none
  | .tup ds => if flatD x = true ∧ ds.all flatD = true then some (inFD x ds) else none
  | .tupk ds => if flatD x = true ∧ ds.all flatD = true then some (inFD x ds) else none
  | .str b => (match x with | .str a => some (strIn a b) | _ => none)
  | _ => none
def gIn (x y : DO) : M DO := gFlat2 (fun a b => (dIn a b).map .bl) x y
def gNotIn (x y : DO) : M DO := gFlat2 (fun a b => (dIn a b).map fun k => .bl (!k)) x y
theorem flat_rel {v : V} {d : D} {o : Own} {f : Fp} (r : R1 K cl Hf H v d o f) (h : flatD d = true) : flatV v = true := by
  cases r <;> first | rfl | (cases h; done)
theorem eq_rel {v1 v2 : V} {d1 d2 : D} {o1 o2 : Own} {f1 f2 : Fp} (r1 : R1 K cl Hf H v1 d1 o1 f1) (r2 : R1 K cl Hf H v2 d2 o2 f2) (h1 : flatD d1 = true) (h2 : flatD d2 = true) : eqV v1 v2 = eqFD d1 d2 := by
  cases r1 <;> first | (cases h1; done) | (cases r2 <;> first | (cases h2; done) | rfl)
theorem flats_rel : ∀ {vs : List V} {ds : List D} {os : List Own} {f : Fp}, Rs K cl Hf H vs ds os f → ds.all flatD = true → vs.all flatV = true := by
  intro vs
  induction vs with
  | nil => intros; rfl
  | cons v vs ih =>
    intro ds os f r h
    cases r with
    | cons r rs hf =>
      rw [List.all_cons, Bool.and_eq_true] at h ⊢
      exact ⟨flat_rel r h.1, ih rs h.2⟩
theorem in_rel {v : V} {d : D} {o : Own} {f : Fp} (r : R1 K cl Hf H v d o f) (h : flatD d = true) : ∀ {vs : List V} {ds : List D} {os : List Own} {f : Fp}, Rs K cl Hf H vs ds os f → ds.all flatD = true → inV v vs = inFD d ds := by
  intro vs
  induction vs with
  | nil => intro ds os f r _; cases r; rfl
  | cons w vs ih =>
    intro ds os f rr h2
    cases rr with
    | cons r' rs hf =>
      rw [List.all_cons, Bool.and_eq_true] at h2
      unfold inV inFD at ih ⊢
      rw [List.any_cons, List.any_cons, eq_rel r' r h2.1 h, ih rs h2.2]
def rInA (K : PySem.W.Frag) (neg : Bool) : R2 := fun x y H Q => rIn K neg x y H Q ∨ ∃ i j, x = .str i ∧ y = .str j ∧ Q (.bl (if neg then !(!(Builtin.Str.occurrences j i 0 j.length 1).isEmpty) else !(Builtin.Str.occurrences j i 0 j.length 1).isEmpty)) H
theorem op_inA {X : Cx} : OpR X (compareOp .In) (rInA X.K false) := OpR.or op_in_seq op_in_str
theorem op_notInA {X : Cx} : OpR X (compareOp .NotIn) (rInA X.K true) := OpR.or op_notIn_seq op_notIn_str
theorem in_all {x y : D} {k : Bool} {neg : Bool} {o1 o2 : Own} {v1 v2 : V} {f1 f2 : Fp} {Q : VK} (s : Same Hf H) (r1 : R1 K cl Hf H v1 x o1 f1) (r2 : R1 K cl Hf H v2 y o2 f2) (e : dIn x y = some k) (q : Q (.bl (if neg then !k else k)) H) : rInA K neg v1 v2 H Q := by
  unfold dIn at e
  split at e
  · split at e
    · rename_i h
      cases e
      obtain ⟨a, vs, os, g, rfl, ha, rs, _, _⟩ := r2.isLst s
      refine .inl ⟨a, vs, rfl, .inl (SqL.of ha), flat_rel r1 h.1, flats_rel rs h.2, ?_⟩
      rw [in_rel r1 h.1 rs h.2]; exact q
    · cases e
  · split at e
    · rename_i h
      cases e
      obtain ⟨a, vs, os, rfl, ha, _, rs, _⟩ := r2.isTup s
      refine .inl ⟨a, vs, rfl, .inr (SqT.of ha), flat_rel r1 h.1, flats_rel rs h.2, ?_⟩
      rw [in_rel r1 h.1 rs h.2]; exact q
    · cases e
  · split at e
    · rename_i h
      cases e
      obtain ⟨a, vs, os, rfl, ha, rs, _⟩ := r2.isTupk s
      refine .inl ⟨a, vs, rfl, .inr ha, flat_rel r1 h.1, flats_rel rs h.2, ?_⟩
      rw [in_rel r1 h.1 rs h.2]; exact q
    · cases e
  · obtain ⟨rfl, _⟩ := r2.isStr
    split at e
    · cases e
      obtain ⟨rfl, _⟩ := r1.isStr
      exact .inr ⟨_, _, rfl, rfl, q⟩
    · cases e
  · cases e
theorem dr_in : DR2 K cl C W true true (rInA K false) gIn := by
  refine .flat fun Hf H Q x y d o1 o2 v1 v2 f1 f2 s r1 r2 e => ?_
  cases q : dIn x y with
  | none => rw [q] at e; cases e
  | some k =>
    rw [q] at e; cases e
    exact ⟨_, _, r_bl k, fun h => in_all s r1 r2 q h⟩
theorem dr_notIn : DR2 K cl C W true true (rInA K true) gNotIn := by
  refine .flat fun Hf H Q x y d o1 o2 v1 v2 f1 f2 s r1 r2 e => ?_
  cases q : dIn x y with
  | none => rw [q] at e; cases e
  | some k =>
    rw [q] at e; cases e
    exact ⟨_, _, r_bl (!k), fun h => in_all s r1 r2 q h⟩
/-! ### one argument -/
theorem DRC.one {r : List V → Hp → VK → Prop} {f : DO → M DO} {p own : Bool} (h : ∀ σ H Q ρ Hf fp (x : DO) v f1, Good K cl C Hf H σ ρ fp → R1 K cl Hf H v x.1 x.2 f1 → Wz K cl C W σ Hf H fp (f x ρ) (POk K cl C p own σ Hf H fp Q) → r [v] H Q) :
    DRC K cl C W p own r (fun xs => match xs with | [x] => f x | _ => M.stuck) := by
  intro σ H Q ρ Hf fp xs vs f1 G r1 w
  match xs, w with
  | [x], w =>
    cases r1 with
    | cons r rs hf => cases rs with | nil _ => exact h σ H Q ρ Hf fp x _ _ G r w
  | [], w => exact False.elim w
  | _ :: _ :: _, w => exact False.elim w
theorem DRC.two {r : List V → Hp → VK → Prop} {f : DO → DO → M DO} {p own : Bool} (h : ∀ σ H Q ρ Hf fp (x y : DO) v u f1 f2, Good K cl C Hf H σ ρ fp → R1 K cl Hf H v x.1 x.2 f1 → R1 K cl Hf H u y.1 y.2 f2 → Wz K cl C W σ Hf H fp (f x y ρ) (POk K cl C p own σ Hf H fp Q) → r [v, u] H Q) :
    DRC K cl C W p own r (fun xs => match xs with | [x, y] => f x y | _ => M.stuck) := by
  intro σ H Q ρ Hf fp xs vs f1 G r1 w
  match xs, w with
  | [x, y], w =>
    cases r1 with
    | cons r rs hf => cases rs with | cons r' rs' hf' => cases rs' with | nil _ => exact h σ H Q ρ Hf fp x y _ _ _ _ G r r' w
  | [], w => exact False.elim w
  | [_], w => exact False.elim w
  | _ :: _ :: _ :: _, w => exact False.elim w
def g1 (f : DO → M DO) (xs : List DO) : M DO := match xs with | [x] => f x | _ => M.stuck
def g2 (f : DO → DO → M DO) (xs : List DO) : M DO := match xs with | [x, y] => f x y | _ => M.stuck
/-! len -/
def dLen : D → Option Int
  | .str s => if s.length ≤ sizeLine then some s.length else none
  | .lst ds => some ds.length
  | .lsk ds => some ds.length
  | .tup ds => some ds.length
  | .tupk ds => some ds.length
  | .dic kvs => some kvs.length
  | .dit kvs => some kvs.length
  | _ => none
def gLen : List DO → M DO := g1 (gFlat1 fun d => (dLen d).map .int)
def rLenA (K : PySem.W.Frag) : List V → Hp → VK → Prop := fun xs H Q => (∃ x n, xs = [x] ∧ LenV K x H n ∧ Q (.int n) H) ∨ (∃ a kvs, xs = [V.ref a] ∧ H a = some (.dK kvs) ∧ Q (.int kvs.length) H) ∨ rLenT xs H Q
theorem call_lenA {X : Cx} : CallR X (.builtin "len") (rLenA X.K) := CallR.or call_len (CallR.or call_lenD call_len_dT)
theorem dr_len : DRC K cl C W true true (rLenA K) gLen := by
  refine DRC.one fun σ H Q ρ Hf fp x v f1 G r w => ?_
  unfold gFlat1 at w
  dsimp only at w
  cases e : dLen x.1 with
  | none => rw [e] at w; exact False.elim w
  | some n =>
    rw [e] at w
    have q := POk.keep (v := V.int n) w G (r_int n)
    revert r
    generalize x.1 = d at e
    intro r
    unfold dLen at e
    split at e
    · split at e
      · rename_i h
        cases e
        obtain ⟨rfl, _⟩ := r.isStr
        exact .inl ⟨_, _, rfl, ⟨h, rfl⟩, q⟩
      · cases e
    · cases e
      obtain ⟨a, vs, os, g, rfl, ha, rs, _, _⟩ := r.isLst G.sub
      exact .inl ⟨_, _, rfl, .inl ⟨vs, SqL.of ha, rfl⟩, by rw [rs.len.1]; exact q⟩
    · cases e
      obtain ⟨a, vs, os, rfl, ha, rs, _⟩ := r.isLsk G.sub
      exact .inl ⟨_, _, rfl, .inl ⟨vs, ha, rfl⟩, by rw [rs.len.1]; exact q⟩
    · cases e
      obtain ⟨a, vs, os, rfl, ha, _, rs, _⟩ := r.isTup G.sub
      exact .inl ⟨_, _, rfl, .inr ⟨vs, SqT.of ha, rfl⟩, by rw [rs.len.1]; exact q⟩
    · cases e
      obtain ⟨a, vs, os, rfl, ha, rs, _⟩ := r.isTupk G.sub
      exact .inl ⟨_, _, rfl, .inr ⟨vs, ha, rfl⟩, by rw [rs.len.1]; exact q⟩
    · cases e
      obtain ⟨a, kvs, os, g, rfl, ha, hk, rs, _, _⟩ := r.isDic G.sub
      refine .inr (.inl ⟨a, kvs, rfl, ha, ?_⟩)
      have l := congrArg List.length hk
      rw [List.length_map, List.length_map] at l
      rw [l]; exact q
    · cases e
      obtain ⟨a, kvs, os, g, rfl, ha, hk, rs, _, _⟩ := r.isDit G.sub
      refine .inr (.inr ⟨a, kvs, rfl, ha, ?_⟩)
      have l := congrArg List.length hk
      rw [List.length_map, List.length_map] at l
      rw [l]; exact q
    · cases e
/-! ints -/
theorem DRC.int1 {r : List V → Hp → VK → Prop} {g : Int → D} {gv : Int → V} (hg : ∀ i (Hf H : Hp), R1 K cl Hf H (gv i) (g i) .no Fp.z) (h : ∀ i H Q, Q (gv i) H → r [.int i] H Q) : DRC K cl C W true true r (g1 (gFlat1 fun d => match d with | .int i => some (g i) | _ => none)) := by
  refine DRC.one fun σ H Q ρ Hf fp x v f1 G rx w => ?_
  unfold gFlat1 at w
  revert rx
  generalize e : x.1 = d at w
  intro rx
  cases d with
  | int i => obtain ⟨rfl, _⟩ := rx.isInt; exact h i H Q (POk.keep w G (hg i _ _))
  | _ => exact False.elim w
def gAbs : List DO → M DO := g1 (gFlat1 fun d => match d with | .int i => some (.int (if i < 0 then -i else i)) | _ => none)
theorem dr_abs : DRC K cl C W true true (fun xs H Q => ∃ i, xs = [.int i] ∧ Q (.int (if i < 0 then -i else i)) H) gAbs :=
  .int1 (fun i Hf H => r_int _) fun i H Q q => ⟨i, rfl, q⟩
def gInt : List DO → M DO := g1 (gFlat1 fun d => match d with | .int i => some (.int i) | .bl k => some (.int (if k then 1 else 0)) | _ => none)
theorem dr_int : DRC K cl C W true true (fun xs H Q => (∃ i, xs = [.int i] ∧ Q (.int i) H) ∨ ∃ k, xs = [.bl k] ∧ Q (.int (if k then 1 else 0)) H) gInt := by
  refine DRC.one fun σ H Q ρ Hf fp x v f1 G rx w => ?_
  unfold gFlat1 at w
  revert rx
  generalize e : x.1 = d at w
  intro rx
  cases d with
  | int i => obtain ⟨rfl, _⟩ := rx.isInt; exact .inl ⟨i, rfl, POk.keep w G (r_int _)⟩
  | bl k => obtain ⟨rfl, _⟩ := rx.isBl; exact .inr ⟨k, rfl, POk.keep w G (r_int _)⟩
  | _ => exact False.elim w
theorem DRC.int2 {r : List V → Hp → VK → Prop} {g : Int → Int → Int} (h : ∀ i j H Q, Q (.int (g i j)) H → r [.int i, .int j] H Q) : DRC K cl C W true true r (g2 (gFlat2 (gI2 (fun _ _ => true) fun i j => .int (g i j)))) := by
  refine DRC.two fun σ H Q ρ Hf fp x y v u f1 f2 G rx ry w => ?_
  unfold gFlat2 gI2 at w
  split at w
  · rename_i i j e1 e2
    rw [e1] at rx; rw [e2] at ry
    obtain ⟨rfl, _⟩ := rx.isInt
    obtain ⟨rfl, _⟩ := ry.isInt
    exact h i j H Q (POk.keep (d := .int (g i j)) w G (r_int _))
  · exact False.elim w
def gMax2 : List DO → M DO := g2 (gFlat2 (gI2 (fun _ _ => true) fun i j => .int (if j > i then j else i)))
def gMin2 : List DO → M DO := g2 (gFlat2 (gI2 (fun _ _ => true) fun i j => .int (if j < i then j else i)))
theorem dr_max2 : DRC K cl C W true true (fun xs H Q => ∃ i j, xs = [.int i, .int j] ∧ Q (.int (if j > i then j else i)) H) gMax2 := .int2 fun i j H Q q => ⟨i, j, rfl, q⟩
theorem dr_min2 : DRC K cl C W true true (fun xs H Q => ∃ i j, xs = [.int i, .int j] ∧ Q (.int (if j < i then j else i)) H) gMin2 := .int2 fun i j H Q q => ⟨i, j, rfl, q⟩
end
end DL
/-! Expressions: each rule gives the reading and what it denotes. -/
namespace DL
open PySem PySem.Spec L2
/-! ### freezing -/
def noS : Own ⊕ List Own → Own ⊕ List Own
  | .inl _ => .inl .no
  | .inr os => .inr (os.map fun _ => .no)
section
variable {K : PySem.W.Frag} {cl : String → Addr} {C : Pc} {W : WX} {Hf H Hf' : Hp} {σ : L2.St} {ρ : Env} {fp : Fp}
theorem mem_const {α β : Type} {b : β} {l : List α} : ∀ o ∈ l.map (fun _ => b), o = b := fun o m => by
  obtain ⟨_, _, e⟩ := List.mem_map.mp m; exact e.symm
theorem R.freeze {x y z} {f : Fp} (h : R K cl Hf H x y z f) (s : Same Hf Hf') (k : ∀ b, f b ≠ 0 → Hf' b = H b) : R K cl Hf' H x y (noS z) Fp.z := by
  induction h with
  | non hf => exact .non fun _ => rfl
  | bl x hf => exact .bl x fun _ => rfl
  | int x hf => exact .int x fun _ => rfl
  | str x hf => exact .str x fun _ => rfl
  | ty x hf => exact .ty x fun _ => rfl
  | cls x hf => exact .cls x fun _ => rfl
  | hole x hf => exact .hole x fun _ => rfl
  | tupk h r ho hf ih => exact .tupk (sqT_sub s h) (ih k) mem_const fun _ => rfl
  | lsk h r ho hf ih => exact .lsk (sqL_sub s h) (ih k) mem_const fun _ => rfl
  | tup h r ho hf ih => exact .tup (s _ _ h) (ih k) mem_const fun _ => rfl
  | lstF h r ho hf ih => exact .lstF (s _ _ h) (ih k) mem_const fun _ => rfl
  | @lstO f g a vs ds os c h hn r ho hf ih => exact .lstF ((k a (by rw [hf, if_pos rfl]; omega)).trans h) (ih fun b hb => k b (by rw [hf]; omega)) mem_const fun _ => rfl
  | dicF h hk r ho hf ih => exact .dicF (s _ _ h) hk (ih k) mem_const fun _ => rfl
  | @dicO f g a kvs kds os c h hn hk r ho hf ih => exact .dicF ((k a (by rw [hf, if_pos rfl]; omega)).trans h) hk (ih fun b hb => k b (by rw [hf]; omega)) mem_const fun _ => rfl
  | ditF h hk r ho hf ih => exact .ditF (s _ _ h) hk (ih k) mem_const fun _ => rfl
  | @ditO f g a kvs kds os c h hn hk r ho hf ih => exact .ditF ((k a (by rw [hf, if_pos rfl]; omega)).trans h) hk (ih fun b hb => k b (by rw [hf]; omega)) mem_const fun _ => rfl
  | objF h hk r ho hf ih => exact .objF (s _ _ h) hk (ih k) mem_const fun _ => rfl
  | @objO f g a dx c fvs fds os fo h hn hk r ho hf ih => exact .objF ((k a (by rw [hf, if_pos rfl]; omega)).trans h) hk (ih fun b hb => k b (by rw [hf]; omega)) mem_const fun _ => rfl
  | nil hf => exact .nil fun _ => rfl
  | cons r rs hf ih1 ih2 => exact .cons (ih1 fun b hb => k b (by rw [hf]; omega)) (ih2 fun b hb => k b (by rw [hf]; omega)) fun _ => rfl
/-- what is owned is frozen -/
def frzH (Hf H : Hp) (f : Fp) : Hp := fun b => if f b = 0 then Hf b else H b
theorem frzH_same {f : Fp} (hn : ∀ b, f b ≠ 0 → Hf b = none) : Same Hf (frzH Hf H f) := fun b o h => by
  unfold frzH
  by_cases e : f b = 0
  · rw [if_pos e]; exact h
  · rw [hn b e] at h; cases h
theorem Good.freeze {f : Fp} (G : Good K cl C Hf H σ ρ fp) (hn : ∀ b, f b ≠ 0 → Hf b = none) (d : ∀ b, f b + fp b ≤ 1) : Good K cl C (frzH Hf H f) H σ ρ fp := by
  refine ⟨fun b o h => ?_, G.env.to (frzH_same hn) fun b hb => ⟨rfl, ?_⟩, G.nd, G.pin, C.mono (frzH_same hn) G.fac⟩
  · unfold frzH at h
    by_cases e : f b = 0
    · rw [if_pos e] at h; exact G.sub b o h
    · rw [if_neg e] at h; exact h
  · unfold frzH
    rw [if_pos (by have := d b; omega)]
    exact (G.live b hb).2
theorem Fr.freeze {f : Fp} {Hf0 H0 : Hp} {fp0 : Fp} (F : Fr Hf0 H0 fp0 Hf H fp) (hn : ∀ b, f b ≠ 0 → Hf b = none) (hf : ∀ b, f b ≠ 0 → fp0 b ≠ 0 ∨ H0 b = none) : Fr Hf0 H0 fp0 (frzH Hf H f) H fp :=
  ⟨F.sub.trans (frzH_same hn), F.keep, F.there, F.new, fun b hb => by
    unfold frzH at hb
    by_cases e : f b = 0
    · rw [if_pos e] at hb; exact F.newf b hb
    · exact .inr (hf b e)⟩
end
theorem Quiet.then {K : PySem.W.Frag} {cl : String → Addr} {C : Pc} {Hf H Hf1 H1 Hf2 H2 : Hp} {σ : L2.St} {ρ : Env} {fp fp1 fp2 : Fp} (a : Quiet Hf H fp Hf1 H1) (G : Good K cl C Hf H σ ρ fp) (b : Quiet Hf1 H1 fp1 Hf2 H2) (F : Fr Hf1 H1 fp1 Hf2 H2 fp2) : Quiet Hf H fp Hf2 H2 := by
  refine ⟨a.same.trans b.same, fun x hx => ?_⟩
  cases e : Hf2 x with
  | none => rfl
  | some u =>
    obtain ⟨⟨o, ho⟩, hn⟩ := G.live x hx
    rcases F.newf x (by rw [e]; exact fun z => nomatch z) with r | r | r
    · exact absurd (a.own x hx) r
    · rw [b.own x r] at e; cases e
    · rw [a.same x o ho] at r; cases r
/-! ### The judgements -/
section
variable (X : Cx) (cl : String → Addr) (C : Pc) (W : WX)
structure QX (p own : Bool) (e : Expr) (f : M DO) : Prop where
  ex : ∃ t, PE X e t ∧ Den X.K cl C W p own t f
structure QT (p : Bool) (e : Expr) (f : M Bool) : Prop where
  ex : ∃ t, PT X e t ∧ DenT X.K cl C W p t f
structure QW (p : Bool) (e : Expr) (f : M Bool) : Prop where
  ex : ∃ t, PW X e t ∧ DenT X.K cl C W p t f
structure QA (p own : Bool) (es : List Expr) (f : M (List DO)) : Prop where
  ex : ∃ t, PA X es t ∧ DenA X.K cl C W p own t f
end
section
variable {X : Cx} {cl : String → Addr} {C : Pc} {W : WX} {p p1 p2 p3 o o1 o2 o3 : Bool} {e a b c : Expr} {fe fa fb fc : M DO} {pos : Pos}
/-! names, constants -/
def mName (i : Nat) : M DO := fun ρ => match ρ[i]? with
  | some (some x) => .ok x ρ
  | _ => .stuck
def mNameF (i : Nat) : M DO := fun ρ => match ρ[i]? with
  | some (some (d, .no)) => .ok (d, .no) ρ
  | _ => .stuck
def mTake (i : Nat) : M DO := fun ρ => match ρ[i]? with
  | some (some x) => .ok x (ρ.set i none)
  | _ => .stuck
def mC (d : D) : M DO := fun ρ => .ok (d, .no) ρ
theorem qx_name (i : Nat) {x : Str} {pos : Pos} (hN : X.N[i]? = some x := by rfl) (hv : Vis X.env.scope x := by first | exact Or.inl rfl | exact Or.inr (Or.inl rfl) | exact Or.inr (Or.inr rfl)) (hd : (x == ("__debug__" : Str)) = false := by decide)
    (hcd : (x == ("__classdict__" : Str)) = false := by decide) : QX X cl C W true false (.Name x pos) (mName i) := by
  refine ⟨_, pe_var (i := i) hN hv hd hcd, fun σ H Q ρ Hf fp G w => ?_⟩
  unfold mName at w
  split at w
  · rename_i y hy
    obtain ⟨v, g, k, h1, h2, h3, h4⟩ := G.env.at (d := y.1) (o := y.2) hy
    exact ⟨v, h1, w v Hf H fp g G h2 Fr.refl (fun e => nomatch e) fun _ => Quiet.refl fun b hb => (G.live b hb).2⟩
  · exact False.elim w
theorem qx_namF (i : Nat) {x : Str} {pos : Pos} (hN : X.N[i]? = some x := by rfl) (hv : Vis X.env.scope x := by first | exact Or.inl rfl | exact Or.inr (Or.inl rfl) | exact Or.inr (Or.inr rfl)) (hd : (x == ("__debug__" : Str)) = false := by decide)
    (hcd : (x == ("__classdict__" : Str)) = false := by decide) : QX X cl C W true true (.Name x pos) (mNameF i) := by
  refine ⟨_, pe_var (i := i) hN hv hd hcd, fun σ H Q ρ Hf fp G w => ?_⟩
  unfold mNameF at w
  split at w
  · rename_i d hy
    obtain ⟨v, g, k, h1, h2, h3, h4⟩ := G.env.at (d := d) (o := .no) hy
    exact ⟨v, h1, POk.keep w G h2⟩
  · exact False.elim w
theorem qx_take (i : Nat) {x : Str} {pos : Pos} (hN : X.N[i]? = some x := by rfl) (hv : Vis X.env.scope x := by first | exact Or.inl rfl | exact Or.inr (Or.inl rfl) | exact Or.inr (Or.inr rfl)) (hd : (x == ("__debug__" : Str)) = false := by decide)
    (hcd : (x == ("__classdict__" : Str)) = false := by decide) : QX X cl C W false true (.Name x pos) (mTake i) := by
  refine ⟨_, pe_var (i := i) hN hv hd hcd, fun σ H Q ρ Hf fp G w => ?_⟩
  unfold mTake at w
  split at w
  · rename_i y hy
    obtain ⟨v, g, k, h1, h2, h3, h4⟩ := G.env.at (d := y.1) (o := y.2) hy
    refine ⟨v, h1, w v Hf H k g ⟨G.sub, h3, fun b => ?_, G.pin, G.fac⟩ h2 ⟨Same.refl _, fun _ _ h _ => h, fun _ h => h, fun b hb => .inl ?_, fun _ h => .inl h⟩ (fun _ => ⟨fun b => ?_, fun b hb => .inl ?_⟩) fun e => nomatch e⟩
    · have := G.nd b; have := h4 b; omega
    · have := h4 b; omega
    · have := G.nd b; have := h4 b; omega
    · have := h4 b; omega
  · exact False.elim w
theorem den_c {K : PySem.W.Frag} {v : V} {d : D} (r : ∀ Hf H : Hp, R1 K cl Hf H v d .no Fp.z) : Den K cl C W true true (tC v) (mC d) := fun σ H Q ρ Hf fp G w => POk.keep w G (r Hf H)
theorem qx_int {i : Int} {j : Nat} {pos : Pos} : QX X cl C W true true (.Constant (.int i) j pos) (mC (.int i)) := ⟨_, pe_int, den_c fun _ _ => r_int i⟩
theorem qx_bl {i : Bool} {j : Nat} {pos : Pos} : QX X cl C W true true (.Constant (.bool i) j pos) (mC (.bl i)) := ⟨_, pe_bl, den_c fun _ _ => r_bl i⟩
theorem qx_str {i : Str} {j : Nat} {pos : Pos} : QX X cl C W true true (.Constant (.str i) j pos) (mC (.str i)) := ⟨_, pe_str, den_c fun _ _ => r_str i⟩
theorem qx_non {j : Nat} {pos : Pos} : QX X cl C W true true (.Constant .none j pos) (mC .non) := ⟨_, pe_non, den_c fun _ _ => r_non⟩
/-- a global constant -/
theorem qx_glob {x : Str} {v : V} {u : Value} {d : D} (hg : Gl X x) (hm : X.mg x = some u) (r : RelV v u) (hr : ∀ Hf H : Hp, R1 X.K cl Hf H v d .no Fp.z) (hd : (x == ("__debug__" : Str)) = false := by decide) : QX X cl C W true true (.Name x pos) (mC d) :=
  ⟨_, pe_glob hg hm r hd, den_c hr⟩
/-! who owns it -/
def mChk (f : M DO) : M DO := M.bind f fun x ρ => match x.2 with | .no => .ok (x.1, .no) ρ | _ => .stuck
def mFrz (f : M DO) : M DO := M.bind f fun x => M.ret (x.1, .no)
theorem qx_chk (h : QX X cl C W p o e fe) : QX X cl C W p true e (mChk fe) := by
  obtain ⟨t, pe, dn⟩ := h
  refine ⟨t, pe, fun σ H Q ρ Hf fp G w => dn.bind G w fun x ρ1 v Hf1 H1 fp1 fd G1 r1 F1 o1 q1 w1 => ?_⟩
  split at w1
  · rename_i e
    rw [e] at r1
    exact POk.no w1 G1 r1 F1 q1
  · exact False.elim w1
theorem qx_frz (h : QX X cl C W p true e fe) : QX X cl C W false true e (mFrz fe) := by
  obtain ⟨t, pe, dn⟩ := h
  refine ⟨t, pe, fun σ H Q ρ Hf fp G w => dn.bind G w fun x ρ1 v Hf1 H1 fp1 fd G1 r1 F1 o1 q1 w1 => ?_⟩
  have hn : ∀ b, fd b ≠ 0 → Hf1 b = none := fun b hb => (r1.live b hb).2
  refine POk.no (d := x.1) w1 (G1.freeze hn (o1 rfl).1) (r1.freeze (frzH_same hn) fun b hb => ?_) (F1.freeze hn (o1 rfl).2) fun e => nomatch e
  unfold frzH; rw [if_neg hb]
/-- it may not be known to be quiet -/
theorem qx_p (h : QX X cl C W true o e fe) : QX X cl C W false o e fe := by
  obtain ⟨t, pe, dn⟩ := h
  refine ⟨t, pe, fun σ H Q ρ Hf fp G w => dn σ H Q ρ Hf fp G (w.imp fun x ρ' _ h => fun v Hf' H' fp' fd a b c d _ => h v Hf' H' fp' fd a b c d fun e => nomatch e)⟩
theorem qx_b (h : QX X cl C W p true e fe) : QX X cl C W p false e fe := by
  obtain ⟨t, pe, dn⟩ := h
  refine ⟨t, pe, fun σ H Q ρ Hf fp G w => dn σ H Q ρ Hf fp G (w.imp fun x ρ' _ h => fun v Hf' H' fp' fd a b c d q => h v Hf' H' fp' fd a b c (fun e => nomatch e) q)⟩
/-! two operands -/
theorem den2 {K : PySem.W.Frag} {ta tb : TE} {r : R2} {g : DO → DO → M DO} (ha : Den K cl C W p1 o1 ta fa) (hb : Den K cl C W p2 o2 tb fb) (hg : DR2 K cl C W true true r g) (hc : (o1 || p2) = true) :
    Den K cl C W (p1 && p2) true (tOp r ta tb) (M.bind fa fun x => M.bind fb fun y => g x y) := by
  intro σ H Q ρ Hf fp G w
  refine ha.bind G w fun x ρ1 v Hf1 H1 fp1 fd G1 r1 F1 c1 q1 w1 => ?_
  refine hb.bind G1 w1 fun y ρ2 u Hf2 H2 fp2 fe G2 r2 F2 c2 q2 w2 => ?_
  have rx : R1 K cl Hf2 H2 v x.1 x.2 fd := r1.past F2 (by
    cases e : o1 with
    | true => exact .inl (c1 e).1
    | false => rw [e] at hc; exact .inr (q2 hc))
  refine hg σ H2 Q ρ2 Hf2 fp2 x y v u fd fe G2 rx r2 (w2.imp fun z ρ' _ h => fun v' Hf' H' fp' fd' a b c d q => h v' Hf' H' fp' fd' a b ((F1.trans F2).trans c) (fun _ => ⟨(d rfl).1, fun b hb => ?_⟩) fun ep => ?_)
  · rcases (d rfl).2 b hb with z | z
    · exact (F1.trans F2).new b z
    · exact .inr ((F1.trans F2).there b z)
  · rw [Bool.and_eq_true] at ep
    exact ((q1 ep.1).then G (q2 ep.2) F2).then G (q rfl) c
end
end DL
namespace DL
open PySem PySem.Spec L2
def m2 (g : DO → DO → M DO) (fa fb : M DO) : M DO := M.bind fa fun x => M.bind fb fun y => g x y
section
variable {X : Cx} {cl : String → Addr} {C : Pc} {W : WX} {p p1 p2 p3 o o1 o2 o3 : Bool} {e a b c : Expr} {es : List Expr} {fe fa fb fc : M DO} {fs : M (List DO)} {pos : Pos}
theorem qx_op {op : Operator} {r : R2} {g : DO → DO → M DO} (ho : OpR X (binaryOp op) r) (hg : DR2 X.K cl C W true true r g) (ha : QX X cl C W p1 o1 a fa) (hb : QX X cl C W p2 o2 b fb) (hc : (o1 || p2) = true := by rfl) :
    QX X cl C W (p1 && p2) true (.BinOp a op b pos) (m2 g fa fb) := by
  obtain ⟨ta, pa, da⟩ := ha
  obtain ⟨tb, pb, db⟩ := hb
  exact ⟨_, pe_op ho pa pb, den2 da db hg hc⟩
theorem qx_add (ha : QX X cl C W p1 o1 a fa) (hb : QX X cl C W p2 o2 b fb) (hc : (o1 || p2) = true := by rfl) : QX X cl C W (p1 && p2) true (.BinOp a .Add b pos) (m2 gAdd fa fb) := qx_op op_addA dr_add ha hb hc
theorem qx_sub (ha : QX X cl C W p1 o1 a fa) (hb : QX X cl C W p2 o2 b fb) (hc : (o1 || p2) = true := by rfl) : QX X cl C W (p1 && p2) true (.BinOp a .Sub b pos) (m2 gSub fa fb) := qx_op op_sub dr_sub ha hb hc
theorem qx_mul (ha : QX X cl C W p1 o1 a fa) (hb : QX X cl C W p2 o2 b fb) (hc : (o1 || p2) = true := by rfl) : QX X cl C W (p1 && p2) true (.BinOp a .Mult b pos) (m2 gMul fa fb) := qx_op op_mulA dr_mul ha hb hc
theorem qx_div (ha : QX X cl C W p1 o1 a fa) (hb : QX X cl C W p2 o2 b fb) (hc : (o1 || p2) = true := by rfl) : QX X cl C W (p1 && p2) true (.BinOp a .FloorDiv b pos) (m2 gDiv fa fb) := qx_op op_fdivW dr_div ha hb hc
theorem qx_mod (ha : QX X cl C W p1 o1 a fa) (hb : QX X cl C W p2 o2 b fb) (hc : (o1 || p2) = true := by rfl) : QX X cl C W (p1 && p2) true (.BinOp a .Mod b pos) (m2 gMod fa fb) := qx_op op_mod dr_mod ha hb hc
theorem qx_pow (ha : QX X cl C W p1 o1 a fa) (hb : QX X cl C W p2 o2 b fb) (hc : (o1 || p2) = true := by rfl) : QX X cl C W (p1 && p2) true (.BinOp a .Pow b pos) (m2 gPow fa fb) := qx_op op_pow dr_pow ha hb hc
/-! comparisons, as values and as tests -/
theorem qx_cmp {op : CmpOp} {r : R2} {g : DO → DO → M DO} (ho : OpR X (compareOp op) r) (hg : DR2 X.K cl C W true true r g) (ha : QX X cl C W p1 o1 a fa) (hb : QX X cl C W p2 o2 b fb) (hm : behindInMarks op b = false) (hc : (o1 || p2) = true := by rfl) :
    QX X cl C W (p1 && p2) true (.Compare a [op] [b] pos) (m2 g fa fb) := by
  obtain ⟨ta, pa, da⟩ := ha
  obtain ⟨tb, pb, db⟩ := hb
  exact ⟨_, pe_cmpR ho pa pb hm, den2 da db hg hc⟩
def mBool (f : M DO) : M Bool := M.bind f fun x ρ => match x.1 with | .bl b => .ok b ρ | _ => .stuck
theorem denB {K : PySem.W.Frag} {t : TE} (h : Den K cl C W p o t fe) : DenT K cl C W p (tTest t) (mBool fe) := by
  intro σ H Q ρ Hf fp G w
  refine h.bind G w fun x ρ1 v Hf1 H1 fp1 fd G1 r1 F1 c1 q1 w1 => ?_
  split at w1
  · rename_i k e
    rw [e] at r1
    obtain ⟨rfl, _⟩ := r1.isBl
    exact ⟨k, rfl, w1 Hf1 H1 fp1 G1 F1 q1⟩
  · exact False.elim w1
theorem qt_cmp {op : CmpOp} {r : R2} {g : DO → DO → M DO} (ho : OpR X (compareOp op) r) (hg : DR2 X.K cl C W true true r g) (ha : QX X cl C W p1 o1 a fa) (hb : QX X cl C W p2 o2 b fb) (hm : behindInMarks op b = false) (hc : (o1 || p2) = true := by rfl) :
    QT X cl C W (p1 && p2) (.Compare a [op] [b] pos) (mBool (m2 g fa fb)) := by
  obtain ⟨ta, pa, da⟩ := ha
  obtain ⟨tb, pb, db⟩ := hb
  exact ⟨_, pt_cmpR ho pa pb hm, denB (den2 da db hg hc)⟩
/-- a < b < c, each asked once -/
def m3 (g g' : DO → DO → M DO) (fa fb fc : M DO) : M DO := M.bind fa fun x => M.bind fb fun y => M.bind (mBool (g x y)) fun k => if k = true then M.bind fc fun z => g' y z else M.ret (.bl false, .no)
theorem den3 {K : PySem.W.Frag} {ta tb tc : TE} {r r' : R2} {g g' : DO → DO → M DO} (ha : Den K cl C W p1 o1 ta fa) (hb : Den K cl C W p2 o2 tb fb) (hc : Den K cl C W true o3 tc fc) (hg : DR2 K cl C W true true r g) (hg' : DR2 K cl C W true true r' g') (h : (o1 || p2) = true) :
    Den K cl C W (p1 && p2) true (tChain r r' ta tb tc) (m3 g g' fa fb fc) := by
  intro σ H Q ρ Hf fp G w
  refine ha.bind G w fun x ρ1 v Hf1 H1 fp1 fd G1 r1 F1 c1 q1 w1 => ?_
  refine hb.bind G1 w1 fun y ρ2 u Hf2 H2 fp2 fe G2 r2 F2 c2 q2 w2 => ?_
  have rx : R1 K cl Hf2 H2 v x.1 x.2 fd := r1.past F2 (by
    cases e : o1 with
    | true => exact .inl (c1 e).1
    | false => rw [e] at h; exact .inr (q2 h))
  -- the first comparison
  have w2' : Wz K cl C W σ Hf2 H2 fp2 (M.bind (g x y) (fun d ρ => M.bind (fun ρ => match d.1 with | .bl b => .ok b ρ | _ => .stuck) (fun k => if k = true then M.bind fc fun z => g' y z else M.ret (.bl false, .no)) ρ) ρ2) (POk K cl C (p1 && p2) true σ Hf H fp Q) := by
    refine cast ?_ w2
    congr 1
    unfold mBool M.bind
    cases g x y ρ2 <;> rfl
  have step : ∀ (T : VK), Wz K cl C W σ Hf2 H2 fp2 (g x y ρ2) (POk K cl C true true σ Hf2 H2 fp2 T) → r v u H2 T := fun T hh => hg σ H2 T ρ2 Hf2 fp2 x y v u fd fe G2 rx r2 hh
  refine step _ ?_
  unfold M.bind at w2'
  cases eg : g x y ρ2 with
  | stuck => rw [eg] at w2'; exact w2'
  | err c fs ρ3 => rw [eg] at w2'; exact w2'
  | ok d ρ3 =>
    rw [eg] at w2'
    intro v3 Hf3 H3 fp3 fd3 G3 r3 F3 c3 q3
    dsimp only at w2'
    split at w2'
    · exact False.elim w2'
    · rename_i k ρ4 ek
      split at ek
      · rename_i kk e1
        rw [e1] at r3
        obtain ⟨rfl, _⟩ := r3.isBl
        have e2 := Rz.ok.inj ek
        obtain ⟨rfl, rfl⟩ := e2
        refine ⟨kk, rfl, ?_⟩
        cases kk with
        | true =>
          rw [if_pos rfl] at w2' ⊢
          refine hc.bind G3 (w2'.past F3) fun z ρ5 v5 Hf5 H5 fp5 fd5 G5 r5 F5 c5 q5 w5 => ?_
          have ry : R1 K cl Hf5 H5 u y.1 y.2 fe := (r2.past F3 (.inr (q3 rfl))).past F5 (.inr (q5 rfl))
          refine hg' σ H5 Q ρ5 Hf5 fp5 y z u v5 fe fd5 G5 ry r5 (w5.imp fun z ρ' _ h => fun v' Hf' H' fp' fd' a b c d q => h v' Hf' H' fp' fd' a b ((((F1.trans F2).trans F3).trans F5).trans c) (fun _ => ⟨(d rfl).1, fun b hb => ?_⟩) fun ep => ?_)
          · rcases (d rfl).2 b hb with z | z
            · exact (((F1.trans F2).trans F3).trans F5).new b z
            · exact .inr ((((F1.trans F2).trans F3).trans F5).there b z)
          · rw [Bool.and_eq_true] at ep
            exact ((((q1 ep.1).then G (q2 ep.2) F2).then G (q3 rfl) F3).then G (q5 rfl) F5).then G (q rfl) c
        | false =>
          rw [if_neg Bool.false_ne_true] at w2' ⊢
          exact POk.no (p := p1 && p2) (own := true) (d := .bl false) w2' G3 (r_bl false) ((F1.trans F2).trans F3) fun ep => by
            rw [Bool.and_eq_true] at ep
            exact ((q1 ep.1).then G (q2 ep.2) F2).then G (q3 rfl) F3
      · cases ek
    · rename_i c fs ρ4 ek
      split at ek <;> cases ek
theorem qx_chain {op op' : CmpOp} {r r' : R2} {g g' : DO → DO → M DO} (ho : OpR X (compareOp op) r) (hg : DR2 X.K cl C W true true r g) (ho' : OpR X (compareOp op') r') (hg' : DR2 X.K cl C W true true r' g') (ha : QX X cl C W p1 o1 a fa) (hb : QX X cl C W p2 o2 b fb) (hc : QX X cl C W true o3 c fc)
    (hm : lastMarks [op, op'] [b, c] = false := by with_unfolding_all rfl) (h : (o1 || p2) = true := by rfl) : QX X cl C W (p1 && p2) true (.Compare a [op, op'] [b, c] pos) (m3 g g' fa fb fc) := by
  obtain ⟨ta, pa, da⟩ := ha
  obtain ⟨tb, pb, db⟩ := hb
  obtain ⟨tc, pc, dc⟩ := hc
  exact ⟨_, pe_chain ho ho' pa pb pc hm, den3 da db dc hg hg' h⟩
theorem qt_chain {op op' : CmpOp} {r r' : R2} {g g' : DO → DO → M DO} (ho : OpR X (compareOp op) r) (hg : DR2 X.K cl C W true true r g) (ho' : OpR X (compareOp op') r') (hg' : DR2 X.K cl C W true true r' g') (ha : QX X cl C W p1 o1 a fa) (hb : QX X cl C W p2 o2 b fb) (hc : QX X cl C W true o3 c fc)
    (hm : lastMarks [op, op'] [b, c] = false := by with_unfolding_all rfl) (h : (o1 || p2) = true := by rfl) : QT X cl C W (p1 && p2) (.Compare a [op, op'] [b, c] pos) (mBool (m3 g g' fa fb fc)) := by
  obtain ⟨ta, pa, da⟩ := ha
  obtain ⟨tb, pb, db⟩ := hb
  obtain ⟨tc, pc, dc⟩ := hc
  exact ⟨_, pt_chain ho ho' pa pb pc hm, denB (den3 da db dc hg hg' h)⟩
/-! ### tests -/
/-- the truth of a value -/
def dTru : D → Option Bool
  | .non => some false
  | .bl b => some b
  | .int i => some (i != 0)
  | .str y => if y.length ≤ sizeLine then some ((y.length : Int) != 0) else none
  | .lst xs => some (!xs.isEmpty)
  | .lsk xs => some (!xs.isEmpty)
  | .tup xs => some (!xs.isEmpty)
  | .tupk xs => some (!xs.isEmpty)
  | .dic kvs => some (!kvs.isEmpty)
  | _ => none
def mTru (f : M DO) : M Bool := M.bind f fun x => M.opt (dTru x.1)
theorem tru_rel {K : PySem.W.Frag} {Hf H : Hp} {v : V} {d : D} {w : Own} {f : Fp} {k : Bool} (r : R1 K cl Hf H v d w f) (s : Same Hf H) (e : dTru d = some k) : TruV K v H k := by
  unfold dTru at e
  have emp : ∀ {vs : List V} {ds : List D} {os : List Own} {g : Fp}, Rs K cl Hf H vs ds os g → (!ds.isEmpty) = !vs.isEmpty := fun {vs ds os g} r => by
    have l := r.len.1
    cases vs <;> cases ds <;> first | rfl | cases l
  split at e
  · cases e; obtain ⟨rfl, _⟩ := r.isNon; rfl
  · cases e; obtain ⟨rfl, _⟩ := r.isBl; rfl
  · cases e; obtain ⟨rfl, _⟩ := r.isInt; rfl
  · split at e
    · rename_i h; cases e; obtain ⟨rfl, _⟩ := r.isStr; exact ⟨h, rfl⟩
    · cases e
  · cases e
    obtain ⟨a, vs, os, g, rfl, ha, rs, _, _⟩ := r.isLst s
    exact .inl ⟨vs, SqL.of ha, emp rs⟩
  · cases e
    obtain ⟨a, vs, os, rfl, ha, rs, _⟩ := r.isLsk s
    exact .inl ⟨vs, ha, emp rs⟩
  · cases e
    obtain ⟨a, vs, os, rfl, ha, _, rs, _⟩ := r.isTup s
    exact .inr (.inl ⟨vs, SqT.of ha, emp rs⟩)
  · cases e
    obtain ⟨a, vs, os, rfl, ha, rs, _⟩ := r.isTupk s
    exact .inr (.inl ⟨vs, ha, emp rs⟩)
  · rename_i kds
    cases e
    obtain ⟨a, kvs, os, g, rfl, ha, hk, rs, _, _⟩ := r.isDic s
    refine .inr (.inr ⟨kvs, ha, ?_⟩)
    have l := congrArg List.length hk
    rw [List.length_map, List.length_map] at l
    cases kvs <;> cases kds <;> first | rfl | cases l
  · cases e
theorem qt_tru (h : QX X cl C W p o e fe) (he : ∀ whole, isTrue e X.env whole = (do let v ← whole; standAt e.pos; holding [v] (truthy v)) := by intro _; rfl) : QT X cl C W p e (mTru fe) := by
  obtain ⟨t, pe, dn⟩ := h
  refine ⟨_, pt_truth pe he, fun σ H Q ρ Hf fp G w => dn.bind G w fun x ρ1 v Hf1 H1 fp1 fd G1 r1 F1 c1 q1 w1 => ?_⟩
  unfold M.opt at w1
  split at w1
  · rename_i k ek
    exact ⟨k, tru_rel r1 G1.sub ek, w1 Hf1 H1 fp1 G1 F1 q1⟩
  · exact False.elim w1
def mNotT (f : M Bool) : M Bool := M.bind f fun b => M.ret (!b)
def mAndT (f g : M Bool) : M Bool := M.bind f fun b => if b = true then g else M.ret false
def mOrT (f g : M Bool) : M Bool := M.bind f fun b => if b = true then M.ret true else g
variable {ta' tb' : M Bool} {rest : List Expr}
theorem qt_not (h : QT X cl C W p a ta') : QT X cl C W p (.UnaryOp .Not a pos) (mNotT ta') := by
  obtain ⟨t, pe, dn⟩ := h
  exact ⟨_, pt_not pe, fun σ H Q ρ Hf fp G w => dn.bind G w fun x ρ1 Hf1 H1 fp1 G1 F1 q1 w1 => w1 Hf1 H1 fp1 G1 F1 q1⟩
theorem PtOk.past {K : PySem.W.Frag} {σ : L2.St} {Hf H Hf1 H1 : Hp} {ρ : Env} {fp fp1 : Fp} {Q : Bool → Hp → Prop} {b : Bool} {ρ' : Env} (h : PtOk K cl C (p1 && p2) σ Hf H fp Q b ρ') (G : Good K cl C Hf H σ ρ fp) (F : Fr Hf H fp Hf1 H1 fp1) (q : p1 = true → Quiet Hf H fp Hf1 H1) : PtOk K cl C p2 σ Hf1 H1 fp1 Q b ρ' :=
  fun Hf' H' fp' g f qq => h Hf' H' fp' g (F.trans f) fun e => by
    rw [Bool.and_eq_true] at e
    exact (q e.1).then G (qq e.2) f
theorem POk.past {K : PySem.W.Frag} {σ : L2.St} {Hf H Hf1 H1 : Hp} {ρ : Env} {fp fp1 : Fp} {Q : VK} {x : DO} {ρ' : Env} (h : POk K cl C (p1 && p2) o σ Hf H fp Q x ρ') (G : Good K cl C Hf H σ ρ fp) (F : Fr Hf H fp Hf1 H1 fp1) (q : p1 = true → Quiet Hf H fp Hf1 H1) : POk K cl C p2 o σ Hf1 H1 fp1 Q x ρ' :=
  fun v Hf' H' fp' fd g r f cc qq => h v Hf' H' fp' fd g r (F.trans f) (fun e => ⟨(cc e).1, fun b hb => by
    rcases (cc e).2 b hb with z | z
    · exact F.new b z
    · exact .inr (F.there b z)⟩) fun e => by
    rw [Bool.and_eq_true] at e
    exact (q e.1).then G (qq e.2) f
theorem qw_1 (h : QT X cl C W p a ta') : QW X cl C W p (.BoolOp .And [a] pos) ta' := by obtain ⟨t, pe, dn⟩ := h; exact ⟨_, pw_and1 pe, dn⟩
theorem qw_1o (h : QT X cl C W p a ta') : QW X cl C W p (.BoolOp .Or [a] pos) ta' := by obtain ⟨t, pe, dn⟩ := h; exact ⟨_, pw_or1 pe, dn⟩
theorem qw_and (h1 : QT X cl C W p1 a ta') (h2 : QW X cl C W p2 (.BoolOp .And (b :: rest) pos) tb') : QW X cl C W (p1 && p2) (.BoolOp .And (a :: b :: rest) pos) (mAndT ta' tb') := by
  obtain ⟨t, pe, dn⟩ := h1
  obtain ⟨u, pu, du⟩ := h2
  refine ⟨_, pw_and pe pu, fun σ H Q ρ Hf fp G w => dn.bind G w fun x ρ1 Hf1 H1 fp1 G1 F1 q1 w1 => ?_⟩
  cases x with
  | true =>
    rw [if_pos rfl] at w1 ⊢
    exact du σ H1 Q ρ1 Hf1 fp1 G1 (w1.imp fun b ρ' _ h => h.past G F1 q1)
  | false =>
    rw [if_neg Bool.false_ne_true] at w1 ⊢
    exact w1 Hf1 H1 fp1 G1 F1 fun e => q1 (by rw [Bool.and_eq_true] at e; exact e.1)
theorem qw_or (h1 : QT X cl C W p1 a ta') (h2 : QW X cl C W p2 (.BoolOp .Or (b :: rest) pos) tb') : QW X cl C W (p1 && p2) (.BoolOp .Or (a :: b :: rest) pos) (mOrT ta' tb') := by
  obtain ⟨t, pe, dn⟩ := h1
  obtain ⟨u, pu, du⟩ := h2
  refine ⟨_, pw_or pe pu, fun σ H Q ρ Hf fp G w => dn.bind G w fun x ρ1 Hf1 H1 fp1 G1 F1 q1 w1 => ?_⟩
  cases x with
  | true =>
    rw [if_pos rfl] at w1 ⊢
    exact w1 Hf1 H1 fp1 G1 F1 fun e => q1 (by rw [Bool.and_eq_true] at e; exact e.1)
  | false =>
    rw [if_neg Bool.false_ne_true] at w1 ⊢
    exact du σ H1 Q ρ1 Hf1 fp1 G1 (w1.imp fun b ρ' _ h => h.past G F1 q1)
theorem qt_w (h : QW X cl C W p e ta') : QT X cl C W p e ta' := by obtain ⟨t, pe, dn⟩ := h; exact ⟨_, pe.pt, dn⟩
theorem qt_p (h : QT X cl C W true e ta') : QT X cl C W false e ta' := by
  obtain ⟨t, pe, dn⟩ := h
  exact ⟨t, pe, fun σ H Q ρ Hf fp G w => dn σ H Q ρ Hf fp G (w.imp fun x ρ' _ h => fun Hf' H' fp' a b _ => h Hf' H' fp' a b fun e => nomatch e)⟩
/-! as values, all bools -/
def mNotV (f : M DO) : M DO := M.bind (mBool f) fun b => M.ret (.bl (!b), .no)
def mAndV (f g : M DO) : M DO := M.bind (mBool f) fun b => if b = true then g else M.ret (.bl false, .no)
def mOrV (f g : M DO) : M DO := M.bind (mBool f) fun b => if b = true then M.ret (.bl true, .no) else g
theorem qx_not (h : QX X cl C W p o a fa) : QX X cl C W p true (.UnaryOp .Not a pos) (mNotV fa) := by
  obtain ⟨t, pe, dn⟩ := h
  refine ⟨_, pe_not pe, fun σ H Q ρ Hf fp G w => (denB dn).bind (T := fun k H1 => Q (.bl (!k)) H1) G w fun x ρ1 Hf1 H1 fp1 G1 F1 q1 w1 => POk.no (d := .bl (!x)) w1 G1 (r_bl _) F1 q1⟩
theorem qx_one {op : BoolOp} (h : QX X cl C W p o a fa) : QX X cl C W p o (.BoolOp op [a] pos) fa := by obtain ⟨t, pe, dn⟩ := h; exact ⟨_, pe_one pe, dn⟩
theorem qx_and (h1 : QX X cl C W p1 o1 a fa) (h2 : QX X cl C W p2 o2 (.BoolOp .And (b :: rest) pos) fb) : QX X cl C W (p1 && p2) o2 (.BoolOp .And (a :: b :: rest) pos) (mAndV fa fb) := by
  obtain ⟨t, pe, dn⟩ := h1
  obtain ⟨u, pu, du⟩ := h2
  refine ⟨_, pe_and pe pu, fun σ H Q ρ Hf fp G w => (denB dn).bind (T := fun c H1 => if c = true then u σ H1 Q else Q (.bl false) H1) G w fun x ρ1 Hf1 H1 fp1 G1 F1 q1 w1 => ?_⟩
  cases x with
  | true =>
    rw [if_pos rfl] at w1 ⊢
    exact du σ H1 Q ρ1 Hf1 fp1 G1 (w1.imp fun b ρ' _ h => h.past G F1 q1)
  | false =>
    rw [if_neg Bool.false_ne_true] at w1 ⊢
    exact POk.no (d := .bl false) w1 G1 (r_bl _) F1 fun e => q1 (by rw [Bool.and_eq_true] at e; exact e.1)
theorem qx_or (h1 : QX X cl C W p1 o1 a fa) (h2 : QX X cl C W p2 o2 (.BoolOp .Or (b :: rest) pos) fb) : QX X cl C W (p1 && p2) o2 (.BoolOp .Or (a :: b :: rest) pos) (mOrV fa fb) := by
  obtain ⟨t, pe, dn⟩ := h1
  obtain ⟨u, pu, du⟩ := h2
  refine ⟨_, pe_or pe pu, fun σ H Q ρ Hf fp G w => (denB dn).bind (T := fun c H1 => if c = true then Q (.bl true) H1 else u σ H1 Q) G w fun x ρ1 Hf1 H1 fp1 G1 F1 q1 w1 => ?_⟩
  cases x with
  | true =>
    rw [if_pos rfl] at w1 ⊢
    exact POk.no (d := .bl true) w1 G1 (r_bl _) F1 fun e => q1 (by rw [Bool.and_eq_true] at e; exact e.1)
  | false =>
    rw [if_neg Bool.false_ne_true] at w1 ⊢
    exact du σ H1 Q ρ1 Hf1 fp1 G1 (w1.imp fun b ρ' _ h => h.past G F1 q1)
/-! a if t else b -/
def mIf (t : M Bool) (f g : M DO) : M DO := M.bind t fun b => if b = true then f else g
theorem qx_if (hc : QT X cl C W p1 c ta') (h1 : QX X cl C W p2 o a fa) (h2 : QX X cl C W p2 o b fb) : QX X cl C W (p1 && p2) o (.IfExp c a b pos) (mIf ta' fa fb) := by
  obtain ⟨t, pe, dn⟩ := hc
  obtain ⟨u, pu, du⟩ := h1
  obtain ⟨u', pu', du'⟩ := h2
  refine ⟨_, pe_ifExp pe pu pu', fun σ H Q ρ Hf fp G w => dn.bind G w fun x ρ1 Hf1 H1 fp1 G1 F1 q1 w1 => ?_⟩
  cases x with
  | true =>
    rw [if_pos rfl] at w1 ⊢
    exact du σ H1 Q ρ1 Hf1 fp1 G1 (w1.imp fun b ρ' _ h => h.past G F1 q1)
  | false =>
    rw [if_neg Bool.false_ne_true] at w1 ⊢
    exact du' σ H1 Q ρ1 Hf1 fp1 G1 (w1.imp fun b ρ' _ h => h.past G F1 q1)
end
end DL
namespace DL
open PySem PySem.Spec L2
section
variable {X : Cx} {cl : String → Addr} {C : Pc} {W : WX} {p p1 p2 p3 o o1 o2 o3 : Bool} {e a b c : Expr} {es : List Expr} {fe fa fb fc : M DO} {fs : M (List DO)} {pos : Pos}
/-! ### argument lists -/
def mNil : M (List DO) := M.ret []
def mCons (f : M DO) (fs : M (List DO)) : M (List DO) := M.bind f fun x => M.bind fs fun xs => M.ret (x :: xs)
theorem qa_nil : QA X cl C W true true [] mNil := ⟨_, pa_nil, fun σ H Q ρ Hf fp G w => w [] Hf H fp Fp.z G (.nil fun _ => rfl) Fr.refl (fun _ => ⟨fun b => by have := G.nd b; simp [Fp.z]; omega, fun b hb => absurd rfl hb⟩) fun _ => Quiet.refl fun b hb => (G.live b hb).2⟩
theorem qa_cons (h1 : QX X cl C W p1 o1 e fe) (h2 : QA X cl C W p2 o2 es fs) (hc : (o1 || p2) = true := by rfl) (hs : starEach (e :: es) X.env = (false, eval e X.env) :: starEach es X.env := by rfl) : QA X cl C W (p1 && p2) (o1 && o2) (e :: es) (mCons fe fs) := by
  obtain ⟨t, pe, dn⟩ := h1
  obtain ⟨u, pu, du⟩ := h2
  refine ⟨_, pa_cons pe pu hs, fun σ H Q ρ Hf fp G w => dn.bind G w fun x ρ1 v Hf1 H1 fp1 fd G1 r1 F1 c1 q1 w1 => ?_⟩
  refine du.bind G1 w1 fun xs ρ2 vs Hf2 H2 fp2 fe G2 r2 F2 c2 q2 w2 => ?_
  have rx : R1 X.K cl Hf2 H2 v x.1 x.2 fd := r1.past F2 (by
    cases e : o1 with
    | true => exact .inl (c1 e).1
    | false => rw [e] at hc; exact .inr (q2 hc))
  refine w2 (v :: vs) Hf2 H2 fp2 (fun b => fd b + fe b) G2 (.cons rx r2 fun b => rfl) (F1.trans F2) (fun ho => ?_) fun ep => ?_
  · rw [Bool.and_eq_true] at ho
    obtain ⟨a1, a2⟩ := c1 ho.1
    obtain ⟨b1, b2⟩ := c2 ho.2
    have dis : ∀ b, fd b ≠ 0 → fe b = 0 ∧ fp2 b = 0 := fun b hb => by
      obtain ⟨⟨ob, hl⟩, _⟩ := r1.live b hb
      have z1 : fp1 b = 0 := by have := a1 b; omega
      constructor
      · by_cases z : fe b = 0
        · exact z
        · rcases b2 b z with q | q
          · exact absurd z1 q
          · rw [hl] at q; cases q
      · by_cases z : fp2 b = 0
        · exact z
        · rcases F2.new b z with q | q
          · exact absurd z1 q
          · rw [hl] at q; cases q
    refine ⟨fun b => ?_, fun b hb => ?_⟩
    · by_cases z : fd b = 0
      · have := b1 b; omega
      · obtain ⟨d1, d2⟩ := dis b z
        have := a1 b; omega
    · by_cases z : fd b = 0
      · rcases b2 b (by omega) with q | q
        · exact F1.new b q
        · exact .inr (F1.there b q)
      · exact a2 b z
  · rw [Bool.and_eq_true] at ep
    exact (q1 ep.1).then G (q2 ep.2) F2
def allNo (xs : List DO) : Bool := xs.all fun x => match x.2 with | .no => true | _ => false
theorem allNo_os {xs : List DO} (h : allNo xs = true) : ∀ o ∈ xs.map (·.2), o = Own.no := by
  intro o m
  obtain ⟨x, hx, rfl⟩ := List.mem_map.mp m
  have := List.all_eq_true.mp h x hx
  cases e : x.2 with
  | no => rfl
  | _ => rw [e] at this; cases this
/-! displays -/
def mTup (fs : M (List DO)) : M DO := M.bind fs fun xs ρ => if allNo xs = true ∧ xs.length ≤ sizeLine then .ok (.tup (xs.map (·.1)), .no) ρ else .stuck
def mLst (fs : M (List DO)) : M DO := M.bind fs fun xs ρ => if allNo xs = true ∧ xs.length ≤ sizeLine then .ok (.lst (xs.map (·.1)), .lst .no) ρ else .stuck
/-- what comes behind, told of an earlier state -/
theorem POk.from {K : PySem.W.Frag} {σ : L2.St} {Hf H Hf1 H1 : Hp} {ρ : Env} {fp fp1 : Fp} {Q : VK} {x : DO} {ρ' : Env} (h : POk K cl C p o σ Hf H fp Q x ρ') (G : Good K cl C Hf H σ ρ fp) (F : Fr Hf H fp Hf1 H1 fp1) (q : p = true → Quiet Hf H fp Hf1 H1) : POk K cl C true o σ Hf1 H1 fp1 Q x ρ' :=
  fun v Hf' H' fp' fd g r f cc qq => h v Hf' H' fp' fd g r (F.trans f) (fun e => ⟨(cc e).1, fun b hb => by
    rcases (cc e).2 b hb with z | z
    · exact F.new b z
    · exact .inr (F.there b z)⟩) fun e => (q e).then G (qq rfl) f
theorem qx_tup {x1 : Nat} (h : QA X cl C W p o es fs) : QX X cl C W p true (.Tuple es x1 pos) (mTup fs) := by
  obtain ⟨t, pe, dn⟩ := h
  refine ⟨_, pe_tup pe, fun σ H Q ρ Hf fp G w => dn.bind G w fun xs ρ1 vs Hf1 H1 fp1 fd G1 r1 F1 c1 q1 w1 => ?_⟩
  split at w1
  · rename_i h
    have l := r1.len.1
    rw [List.length_map] at l
    exact ⟨by rw [l]; exact h.2, fun q hq => POk.newT (POk.from w1 G F1 q1) G1 (r1.nos (allNo_os h.1)) hq⟩
  · exact False.elim w1
theorem qx_lst (h : QA X cl C W p o es fs) : QX X cl C W p true (.List es pos) (mLst fs) := by
  obtain ⟨t, pe, dn⟩ := h
  refine ⟨_, pe_lst pe, fun σ H Q ρ Hf fp G w => dn.bind G w fun xs ρ1 vs Hf1 H1 fp1 fd G1 r1 F1 c1 q1 w1 => ?_⟩
  split at w1
  · rename_i h
    have l := r1.len.1
    rw [List.length_map] at l
    exact ⟨by rw [l]; exact h.2, fun q hq => POk.newL (POk.from w1 G F1 q1) G1 (r1.nos (allNo_os h.1)) hq⟩
  · exact False.elim w1
/-! ### calls of built-ins -/
def mCall (g : List DO → M DO) (fs : M (List DO)) : M DO := M.bind fs g
theorem denC {K : PySem.W.Frag} {t : TA} {r : List V → Hp → VK → Prop} {g : List DO → M DO} (h : DenA K cl C W p o t fs) (hg : DRC K cl C W true true r g) : Den K cl C W p true (tCB r t) (mCall g fs) := fun σ H Q ρ Hf fp G w => h.bind G w fun xs ρ1 vs Hf1 H1 fp1 fd G1 r1 F1 c1 q1 w1 =>
  hg σ H1 Q ρ1 Hf1 fp1 xs vs fd G1 r1 (w1.imp fun z ρ' _ h => POk.from h G F1 q1)
theorem qx_callB {x : Str} {p' : Pos} {id : String} {r : List V → Hp → VK → Prop} {g : List DO → M DO} (hc : CallR X (.builtin id) r) (hg : DRC X.K cl C W true true r g) (hgl : Gl X x) (hm : X.mg x = none) (hv : bootBuiltins x = some (.builtin id)) (ha : QA X cl C W p o (e :: es) fs)
    (hn : x ≠ "__name__" := by decide) (hdb : (x == ("__debug__" : Str)) = false := by decide) (he : starEach (e :: es) X.env = (false, eval e X.env) :: starEach es X.env := by rfl) (hpl : (backTo pos (starEach es X.env)).any (·.1) = false := by rfl) :
    QX X cl C W p true (.Call (.Name x p') (e :: es) [] pos) (mCall g fs) := by
  obtain ⟨t, pe, dn⟩ := ha
  exact ⟨_, pe_callB hc hgl hm hv pe hn hdb he hpl, denC dn hg⟩
theorem qx_callTy {x : Str} {p' : Pos} {T : String} {r : List V → Hp → VK → Prop} {g : List DO → M DO} (hc : CallR X (.type T) r) (hg : DRC X.K cl C W true true r g) (hgl : Gl X x) (hm : X.mg x = none) (hv : bootBuiltins x = some (.type T)) (ha : QA X cl C W p o (e :: es) fs)
    (hn : x ≠ "__name__" := by decide) (hdb : (x == ("__debug__" : Str)) = false := by decide) (he : starEach (e :: es) X.env = (false, eval e X.env) :: starEach es X.env := by rfl) (hpl : (backTo pos (starEach es X.env)).any (·.1) = false := by rfl) :
    QX X cl C W p true (.Call (.Name x p') (e :: es) [] pos) (mCall g fs) := by
  obtain ⟨t, pe, dn⟩ := ha
  exact ⟨_, pe_callTy hc hgl hm hv pe hn hdb he hpl, denC dn hg⟩
/-! list(x), tuple(x) -/
def signs (x : Str) : List Str := x.cps.toList.map fun c => ⟨#[c]⟩
def gList : List DO → M DO := g1 fun x ρ => match x.1 with
  | .lst ds => if x.2.fl = true then .ok (.lst ds, .lst .no) ρ else .stuck
  | .lsk ds => .ok (.lst ds, .lst .no) ρ
  | .tup ds => .ok (.lst ds, .lst .no) ρ
  | .tupk ds => .ok (.lst ds, .lst .no) ρ
  | .str s => if s.length ≤ sizeLine then .ok (.lst ((signs s).map .str), .lst .no) ρ else .stuck
  | _ => .stuck
def gTuple : List DO → M DO := g1 fun x ρ => match x.1 with
  | .lst ds => if x.2.fl = true then .ok (.tup ds, .no) ρ else .stuck
  | .lsk ds => .ok (.tup ds, .no) ρ
  | .tup ds => .ok (.tup ds, .no) ρ
  | .str s => if s.length ≤ sizeLine then .ok (.tup ((signs s).map .str), .no) ρ else .stuck
  | _ => .stuck
theorem vals_signs {x : Str} {acc : Array Value} (h : ItemsOf (SignAt x) acc x.cps.size) : Vals ((signs x).map V.str) acc.toList := by
  refine vals_of_at (by simp [signs, h.1]) fun j v u hv hu => ?_
  rw [Array.getElem?_toList] at hu
  obtain ⟨c, hc, t, rfl⟩ : ∃ c, x.cps[j]? = some c ∧ ∃ t, u = Value.str ⟨#[c]⟩ t := by
    have := h.2 j u hu
    unfold SignAt at this
    obtain ⟨c, t, h1, h2⟩ := this
    first | exact ⟨c, h1, t, h2⟩ | exact ⟨c, h2, t, h1⟩
  simp [signs, hc] at hv
  subst hv
  exact ⟨t, rfl⟩
def rListA (K : PySem.W.Frag) : List V → Hp → VK → Prop := fun xs H Q => (∃ p ys, xs = [.ref p] ∧ (SqL K H p ys ∨ SqT K H p ys) ∧ ∀ l, H l = none → Q (.ref l) (upd H l (.lst ys))) ∨
  ∃ x, xs = [.str x] ∧ x.length ≤ sizeLine ∧ ∀ l, H l = none → Q (.ref l) (upd H l (.lst ((signs x).map .str)))
def rTupleA (K : PySem.W.Frag) : List V → Hp → VK → Prop := fun xs H Q => (∃ p ys, xs = [.ref p] ∧ ((SqL K H p ys ∧ ∀ l, H l = none → Q (.ref l) (upd H l (.tup ys))) ∨ (SqT K H p ys ∧ Q (.ref p) H))) ∨
  ∃ x, xs = [.str x] ∧ x.length ≤ sizeLine ∧ ∀ l, H l = none → Q (.ref l) (upd H l (.tup ((signs x).map .str)))
theorem call_listA (hc : X.calm = true) : CallR X (.type "list") (rListA X.K) := by
  refine CallR.or call_list_of ?_
  intro pins s σ H xs us Q I r h
  obtain ⟨x, rfl, hz, q⟩ := h
  obtain ⟨u, rfl, ru⟩ := vals1 r
  obtain ⟨t, rfl⟩ := ru
  refine call_list_str (I.ok.hd hc) x t (fun h' tk acc c' hk hS hacc => ?_) hz
  have hlen : acc.size = x.cps.size := hacc.1
  refine ⟨.ref _, _, I.laid (t' := tk) (o := .lst ((signs x).map .str)) (fun b ob q => hk b ob q) (Nat.le_refl _) ⟨by simp [signs]; exact hz, acc.toList, c', vals_signs hacc, by simpa using hS⟩, rfl, q _ I.fresh⟩
theorem call_tupleA (hc : X.calm = true) : CallR X (.type "tuple") (rTupleA X.K) := by
  refine CallR.or call_tuple_of ?_
  intro pins s σ H xs us Q I r h
  obtain ⟨x, rfl, hz, q⟩ := h
  obtain ⟨u, rfl, ru⟩ := vals1 r
  obtain ⟨t, rfl⟩ := ru
  refine call_tuple_str (I.ok.hd hc) x t (fun h' tk acc hk hacc => ?_) hz
  have I1 : Inv X pins σ H { s with heap := h', toks := tk } := I.kept (t' := tk) hk
  refine ⟨.ref h'.objs.size, _, I1.laid (t' := tk) (o := .tup ((signs x).map .str)) (fun b ob q => Heap.get?_push_of_some _ q) (Nat.le_refl _) ⟨by simp [signs]; exact hz, acc.toList, vals_signs hacc, ?_⟩, rfl, q _ (I1.hok.fresh (Nat.le_refl _))⟩
  exact PyProof.Rows.IsTup.new _ _
theorem rows_strs {K : PySem.W.Frag} {Hf H : Hp} (xs : List Str) : Rs K cl Hf H (xs.map V.str) (xs.map D.str) (List.replicate (xs.map D.str).length .no) Fp.z := by
  refine R.rows (by simp) fun i v d h1 h2 => ?_
  rw [List.getElem?_map] at h1 h2
  cases e : xs[i]? with
  | none => rw [e] at h1; cases h1
  | some x => rw [e] at h1 h2; cases h1; cases h2; exact r_str x
theorem rows_ints {K : PySem.W.Frag} {Hf H : Hp} (xs : List Int) : Rs K cl Hf H (xs.map V.int) (xs.map D.int) (List.replicate (xs.map D.int).length .no) Fp.z := by
  refine R.rows (by simp) fun i v d h1 h2 => ?_
  rw [List.getElem?_map] at h1 h2
  cases e : xs[i]? with
  | none => rw [e] at h1; cases h1
  | some x => rw [e] at h1 h2; cases h1; cases h2; exact r_int x
theorem dr_list {K : PySem.W.Frag} : DRC K cl C W true true (rListA K) gList := by
  refine DRC.one fun σ H Q ρ Hf fp x v f1 G r w => ?_
  split at w
  · rename_i ds e
    rw [e] at r
    split at w
    · rename_i h
      obtain ⟨p, vs, rfl, hp, rs, l1⟩ := r.rowO G.sub h
      exact .inl ⟨p, vs, rfl, .inl (SqL.of hp), fun l hl => POk.newL w G rs hl⟩
    · exact False.elim w
  · rename_i ds e
    rw [e] at r
    obtain ⟨a, vs, os, rfl, ha, rs, ho⟩ := r.isLsk G.sub
    exact .inl ⟨a, vs, rfl, .inl ha, fun l hl => POk.newL w G (rs.nos ho) hl⟩
  · rename_i ds e
    rw [e] at r
    obtain ⟨p, vs, rfl, hp, _, rs, l1⟩ := r.rowT G.sub
    exact .inl ⟨p, vs, rfl, .inr (SqT.of hp), fun l hl => POk.newL w G rs hl⟩
  · rename_i ds e
    rw [e] at r
    obtain ⟨a, vs, os, rfl, ha, rs, ho⟩ := r.isTupk G.sub
    exact .inl ⟨a, vs, rfl, .inr ha, fun l hl => POk.newL w G (rs.nos ho) hl⟩
  · rename_i s e
    rw [e] at r
    obtain ⟨rfl, _⟩ := r.isStr
    split at w
    · rename_i h
      exact .inr ⟨s, rfl, h, fun l hl => POk.newL w G (rows_strs _) hl⟩
    · exact False.elim w
  · exact False.elim w
theorem dr_tuple {K : PySem.W.Frag} : DRC K cl C W true true (rTupleA K) gTuple := by
  refine DRC.one fun σ H Q ρ Hf fp x v f1 G r w => ?_
  split at w
  · rename_i ds e
    rw [e] at r
    split at w
    · rename_i h
      obtain ⟨p, vs, rfl, hp, rs, l1⟩ := r.rowO G.sub h
      exact .inl ⟨p, vs, rfl, .inl ⟨SqL.of hp, fun l hl => POk.newT w G rs hl⟩⟩
    · exact False.elim w
  · rename_i ds e
    rw [e] at r
    obtain ⟨a, vs, os, rfl, ha, rs, ho⟩ := r.isLsk G.sub
    exact .inl ⟨a, vs, rfl, .inl ⟨ha, fun l hl => POk.newT w G (rs.nos ho) hl⟩⟩
  · rename_i ds e
    rw [e] at r
    obtain ⟨p, vs, rfl, hp, hp', rs, l1⟩ := r.rowT G.sub
    exact .inl ⟨p, vs, rfl, .inr ⟨SqT.of hp, POk.keep (f := Fp.z) w G (.tup hp' rs mem_rep fun _ => rfl)⟩⟩
  · rename_i s e
    rw [e] at r
    obtain ⟨rfl, _⟩ := r.isStr
    split at w
    · rename_i h
      exact .inr ⟨s, rfl, h, fun l hl => POk.newT w G (rows_strs _) hl⟩
    · exact False.elim w
  · exact False.elim w
/-! sorted, sum, max, min of a list -/
def intsD : List D → Option (List Int)
  | [] => some []
  | .int i :: r => (intsD r).map (i :: ·)
  | _ => none
def strsD : List D → Option (List Str)
  | [] => some []
  | .str i :: r => (strsD r).map (i :: ·)
  | _ => none
theorem intsD_eq : ∀ {ds : List D} {ns : List Int}, intsD ds = some ns → ds = ns.map .int
  | [], ns, h => by cases h; rfl
  | d :: r, ns, h => by
    cases d with
    | int i =>
      rw [intsD] at h
      cases e : intsD r with
      | none => rw [e] at h; cases h
      | some ms => rw [e] at h; cases h; rw [intsD_eq e]; rfl
    | _ => cases h
theorem strsD_eq : ∀ {ds : List D} {ns : List Str}, strsD ds = some ns → ds = ns.map .str
  | [], ns, h => by cases h; rfl
  | d :: r, ns, h => by
    cases d with
    | str i =>
      rw [strsD] at h
      cases e : strsD r with
      | none => rw [e] at h; cases h
      | some ms => rw [e] at h; cases h; rw [strsD_eq e]; rfl
    | _ => cases h
theorem vals_intsD {K : PySem.W.Frag} {Hf H : Hp} : ∀ {ns : List Int} {vs : List V} {os : List Own} {f : Fp}, Rs K cl Hf H vs (ns.map .int) os f → vs = ns.map .int
  | [], vs, os, f, r => by cases r; rfl
  | n :: ns, vs, os, f, r => by
    cases r with
    | cons r rs hf =>
      obtain ⟨rfl, _⟩ := r.isInt
      rw [vals_intsD rs]; rfl
theorem vals_strsD {K : PySem.W.Frag} {Hf H : Hp} : ∀ {ns : List Str} {vs : List V} {os : List Own} {f : Fp}, Rs K cl Hf H vs (ns.map .str) os f → vs = ns.map .str
  | [], vs, os, f, r => by cases r; rfl
  | n :: ns, vs, os, f, r => by
    cases r with
    | cons r rs hf =>
      obtain ⟨rfl, _⟩ := r.isStr
      rw [vals_strsD rs]; rfl
def leS (a b : Str) : Bool := !decide (b.cps.toList < a.cps.toList)
def leI (a b : Int) : Bool := decide (a ≤ b)
def sortS (xs : List Str) : List Str := xs.mergeSort leS
def sortI (xs : List Int) : List Int := xs.mergeSort leI
def gSorted : List DO → M DO := g1 fun x ρ => match x.1 with
  | .lst ds => (match intsD ds, strsD ds with
    | some ns, _ => .ok (.lst ((sortI ns).map .int), .lst .no) ρ
    | none, some xs => if xs.length < 64 then .ok (.lst ((sortS xs).map .str), .lst .no) ρ else .stuck
    | none, none => .stuck)
  | _ => .stuck
def rSortedA (K : PySem.W.Frag) : List V → Hp → VK → Prop := fun vs H Q => rSortedI K vs H Q ∨ rSortedS K vs H Q
theorem call_sortedA : CallR X (.builtin "sorted") (rSortedA X.K) := CallR.or cr_sortedI cr_sortedS
theorem le_trans_cps {a b c : List Nat} (h1 : ¬ b < a) (h2 : ¬ c < b) : ¬ c < a := fun h => by
  rw [List.not_lt] at h1 h2
  have h3 : a ≤ c := List.le_trans h1 h2
  exact (List.not_lt.mpr h3) h
theorem leS_trans (a b c : Str) (h1 : leS a b = true) (h2 : leS b c = true) : leS a c = true := by
  unfold leS at *
  simp only [Bool.not_eq_true', decide_eq_false_iff_not] at *
  exact le_trans_cps h1 h2
theorem leS_total (a b : Str) : (leS a b || leS b a) = true := by
  unfold leS
  by_cases h : b.cps.toList < a.cps.toList
  · have : ¬ a.cps.toList < b.cps.toList := fun h' => List.lt_irrefl _ (List.lt_trans h h')
    simp [this]
  · simp [h]
theorem leS_anti (a b : Str) (h1 : leS a b = true) (h2 : leS b a = true) : a = b := by
  unfold leS at *
  simp only [Bool.not_eq_true', decide_eq_false_iff_not] at *
  rw [List.not_lt] at h1 h2
  have e := List.le_antisymm h1 h2
  have : a.cps = b.cps := by
    have := congrArg List.toArray e
    simpa using this
  cases a; cases b; cases this; rfl
theorem sortedS_pw : ∀ {ys : List Str}, PyProof.Rows.sortedS ys = true → ys.Pairwise (fun a b => leS a b = true) := by
  have ris : ∀ (ys : List Str) (x : Str), PyProof.Rows.risingS x ys = true → (∀ y ∈ ys, leS x y = true) ∧ ys.Pairwise (fun a b => leS a b = true) := by
    intro ys
    induction ys with
    | nil => intro x _; exact ⟨fun y m => (by cases m), .nil⟩
    | cons y ys ih =>
      intro x h
      unfold PyProof.Rows.risingS at h
      rw [Bool.and_eq_true] at h
      obtain ⟨i1, i2⟩ := ih y h.2
      have hxy : leS x y = true := by
        have := h.1
        rw [PyProof.Rows.ltCps_eq] at this
        exact this
      refine ⟨fun z m => ?_, .cons i1 i2⟩
      rcases List.mem_cons.mp m with rfl | m
      · exact hxy
      · exact leS_trans _ _ _ hxy (i1 z m)
  intro ys h
  cases ys with
  | nil => exact .nil
  | cons y ys => exact .cons (ris ys y h).1 (ris ys y h).2
theorem sortS_eq {xs ys : List Str} (hp : ys.Perm xs) (hs : PyProof.Rows.sortedS ys = true) : ys = sortS xs :=
  List.Perm.eq_of_pairwise (le := fun a b => leS a b = true) (fun a b _ _ h1 h2 => leS_anti a b h1 h2) (sortedS_pw hs) (List.pairwise_mergeSort leS_trans leS_total xs) (hp.trans (List.mergeSort_perm xs leS).symm)
theorem sortI_eq {xs ys : List Int} (hp : ys.Perm xs) (hs : ys.Pairwise (· ≤ ·)) : ys = sortI xs :=
  List.Perm.eq_of_pairwise (le := fun a b => leI a b = true) (fun a b _ _ h1 h2 => Int.le_antisymm (of_decide_eq_true h1) (of_decide_eq_true h2)) (hs.imp fun h => decide_eq_true h)
    (List.pairwise_mergeSort (le := leI) (fun a b c h1 h2 => decide_eq_true (Int.le_trans (of_decide_eq_true h1) (of_decide_eq_true h2))) (fun a b => by unfold leI; rcases Int.le_total a b with h | h <;> simp [h]) xs) (hp.trans (List.mergeSort_perm xs leI).symm)
theorem dr_sorted {K : PySem.W.Frag} : DRC K cl C W true true (rSortedA K) gSorted := by
  refine DRC.one fun σ H Q ρ Hf fp x v f1 G r w => ?_
  split at w
  · rename_i ds e
    rw [e] at r
    obtain ⟨a, vs, os, g, rfl, ha, rs, _, _⟩ := r.isLst G.sub
    split at w
    · rename_i ns en
      rw [intsD_eq en] at rs
      rw [vals_intsD rs] at ha
      refine .inl ⟨a, ns, rfl, SqL.of ha, fun ns' q hp hs hq => ?_⟩
      rw [sortI_eq hp hs]
      exact POk.newL w G (rows_ints _) hq
    · rename_i xs en ex
      split at w
      · rename_i h64
        rw [strsD_eq ex] at rs
        rw [vals_strsD rs] at ha
        refine .inr ⟨a, xs, rfl, SqL.of ha, h64, fun ns' q hp hs hq => ?_⟩
        rw [sortS_eq hp hs]
        exact POk.newL w G (rows_strs _) hq
      · exact False.elim w
    · exact False.elim w
  · exact False.elim w
def gSum : List DO → M DO := g1 fun x ρ => match x.1 with
  | .lst ds => (match intsD ds with | some ns => .ok (.int ns.sum, .no) ρ | none => .stuck)
  | _ => .stuck
def maxI : List Int → Int
  | [] => 0
  | a :: r => r.foldl (fun x y => if y > x then y else x) a
def minI : List Int → Int
  | [] => 0
  | a :: r => r.foldl (fun x y => if y < x then y else x) a
theorem maxI_mem : ∀ {ns : List Int}, ns ≠ [] → maxI ns ∈ ns ∧ ∀ y ∈ ns, y ≤ maxI ns := by
  have go : ∀ (r : List Int) (a : Int), (r.foldl (fun x y => if y > x then y else x) a = a ∨ r.foldl (fun x y => if y > x then y else x) a ∈ r) ∧ a ≤ r.foldl (fun x y => if y > x then y else x) a ∧ ∀ y ∈ r, y ≤ r.foldl (fun x y => if y > x then y else x) a := by
    intro r
    induction r with
    | nil => intro a; exact ⟨.inl rfl, Int.le_refl _, fun y m => (by cases m)⟩
    | cons b r ih =>
      intro a
      obtain ⟨h1, h2, h3⟩ := ih (if b > a then b else a)
      rw [List.foldl_cons]
      have hb : b ≤ (if b > a then b else a) := by split <;> omega
      have ha : a ≤ (if b > a then b else a) := by split <;> omega
      refine ⟨?_, Int.le_trans ha h2, fun y m => ?_⟩
      · rcases h1 with h1 | h1
        · rw [h1]
          by_cases c : b > a
          · rw [if_pos c]; exact .inr (List.mem_cons_self ..)
          · rw [if_neg c]; exact .inl rfl
        · exact .inr (List.mem_cons_of_mem _ h1)
      · rcases List.mem_cons.mp m with rfl | m
        · exact Int.le_trans hb h2
        · exact h3 y m
  intro ns hn
  cases ns with
  | nil => exact absurd rfl hn
  | cons a r =>
    obtain ⟨h1, h2, h3⟩ := go r a
    refine ⟨?_, fun y m => ?_⟩
    · rcases h1 with h1 | h1
      · have e : maxI (a :: r) = a := h1
        rw [e]; exact List.mem_cons_self ..
      · exact List.mem_cons_of_mem _ h1
    · rcases List.mem_cons.mp m with rfl | m
      · exact h2
      · exact h3 y m
theorem minI_mem : ∀ {ns : List Int}, ns ≠ [] → minI ns ∈ ns ∧ ∀ y ∈ ns, minI ns ≤ y := by
  have go : ∀ (r : List Int) (a : Int), (r.foldl (fun x y => if y < x then y else x) a = a ∨ r.foldl (fun x y => if y < x then y else x) a ∈ r) ∧ r.foldl (fun x y => if y < x then y else x) a ≤ a ∧ ∀ y ∈ r, r.foldl (fun x y => if y < x then y else x) a ≤ y := by
    intro r
    induction r with
    | nil => intro a; exact ⟨.inl rfl, Int.le_refl _, fun y m => (by cases m)⟩
    | cons b r ih =>
      intro a
      obtain ⟨h1, h2, h3⟩ := ih (if b < a then b else a)
      rw [List.foldl_cons]
      have hb : (if b < a then b else a) ≤ b := by split <;> omega
      have ha : (if b < a then b else a) ≤ a := by split <;> omega
      refine ⟨?_, Int.le_trans h2 ha, fun y m => ?_⟩
      · rcases h1 with h1 | h1
        · rw [h1]
          by_cases c : b < a
          · rw [if_pos c]; exact .inr (List.mem_cons_self ..)
          · rw [if_neg c]; exact .inl rfl
        · exact .inr (List.mem_cons_of_mem _ h1)
      · rcases List.mem_cons.mp m with rfl | m
        · exact Int.le_trans h2 hb
        · exact h3 y m
  intro ns hn
  cases ns with
  | nil => exact absurd rfl hn
  | cons a r =>
    obtain ⟨h1, h2, h3⟩ := go r a
    refine ⟨?_, fun y m => ?_⟩
    · rcases h1 with h1 | h1
      · have e : minI (a :: r) = a := h1
        rw [e]; exact List.mem_cons_self ..
      · exact List.mem_cons_of_mem _ h1
    · rcases List.mem_cons.mp m with rfl | m
      · exact h2
      · exact h3 y m
def gMaxL : List DO → M DO := g1 fun x ρ => match x.1 with
  | .lst ds => (match intsD ds with | some ns => if ns = [] then .stuck else .ok (.int (maxI ns), .no) ρ | none => .stuck)
  | _ => .stuck
def gMinL : List DO → M DO := g1 fun x ρ => match x.1 with
  | .lst ds => (match intsD ds with | some ns => if ns = [] then .stuck else .ok (.int (minI ns), .no) ρ | none => .stuck)
  | _ => .stuck
theorem ints_at {K : PySem.W.Frag} {Hf H : Hp} {v : V} {ds : List D} {w : Own} {f : Fp} {ns : List Int} (r : R1 K cl Hf H v (.lst ds) w f) (s : Same Hf H) (e : intsD ds = some ns) : ∃ a, v = .ref a ∧ SqL K H a (ns.map V.int) := by
  obtain ⟨a, vs, os, g, rfl, ha, rs, _, _⟩ := r.isLst s
  rw [intsD_eq e] at rs
  rw [vals_intsD rs] at ha
  exact ⟨a, rfl, SqL.of ha⟩
theorem dr_sum {K : PySem.W.Frag} : DRC K cl C W true true (rSum K) gSum := by
  refine DRC.one fun σ H Q ρ Hf fp x v f1 G r w => ?_
  split at w
  · rename_i ds e
    rw [e] at r
    split at w
    · rename_i ns en
      obtain ⟨a, rfl, ha⟩ := ints_at r G.sub en
      exact ⟨a, ns, rfl, ha, POk.keep w G (r_int _)⟩
    · exact False.elim w
  · exact False.elim w
theorem dr_maxL {K : PySem.W.Frag} : DRC K cl C W true true (rMax K) gMaxL := by
  refine DRC.one fun σ H Q ρ Hf fp x v f1 G r w => ?_
  split at w
  · rename_i ds e
    rw [e] at r
    split at w
    · rename_i ns en
      split at w
      · exact False.elim w
      · rename_i hn
        obtain ⟨a, rfl, ha⟩ := ints_at r G.sub en
        refine ⟨a, ns, rfl, ha, List.length_pos_iff.mpr hn, fun m hm hle => ?_⟩
        obtain ⟨m1, m2⟩ := maxI_mem hn
        have : m = maxI ns := Int.le_antisymm (m2 m hm) (hle _ m1)
        subst this
        exact POk.keep w G (r_int _)
    · exact False.elim w
  · exact False.elim w
theorem dr_minL {K : PySem.W.Frag} : DRC K cl C W true true (rMin K) gMinL := by
  refine DRC.one fun σ H Q ρ Hf fp x v f1 G r w => ?_
  split at w
  · rename_i ds e
    rw [e] at r
    split at w
    · rename_i ns en
      split at w
      · exact False.elim w
      · rename_i hn
        obtain ⟨a, rfl, ha⟩ := ints_at r G.sub en
        refine ⟨a, ns, rfl, ha, List.length_pos_iff.mpr hn, fun m hm hle => ?_⟩
        obtain ⟨m1, m2⟩ := minI_mem hn
        have : m = minI ns := Int.le_antisymm (hle _ m1) (m2 m hm)
        subst this
        exact POk.keep w G (r_int _)
    · exact False.elim w
  · exact False.elim w
end
end DL
namespace DL
open PySem PySem.Spec L2
/-! ### dicts as data -/
def dval {κ : Type} [DecidableEq κ] (kvs : List (κ × D)) (k : κ) : Option D := (kvs.find? fun kv => decide (kv.1 = k)).map (·.2)
def dput {κ : Type} [DecidableEq κ] (kvs : List (κ × D)) (k : κ) (v : D) : List (κ × D) :=
  if (kvs.any fun kv => decide (kv.1 = k)) = true then kvs.map (fun kv => if kv.1 = k then (kv.1, v) else kv) else kvs ++ [(k, v)]
def keyOf : D → Option Key
  | .int i => some (.inl i)
  | .str x => some (.inr x)
  | _ => none
def keysOf : List D → Option (List Key)
  | [] => some []
  | d :: r => match keyOf d, keysOf r with
    | some k, some ks => some (k :: ks)
    | _, _ => none
def tkeyOf : D → Option (List Key)
  | .tup ds => keysOf ds
  | _ => none
section
variable {K : PySem.W.Frag} {cl : String → Addr} {C : Pc} {W : WX} {Hf H : Hp}
theorem valV_rel {κ : Type} [DecidableEq κ] {k : κ} : ∀ {kvs : List (κ × V)} {kds : List (κ × D)} {os : List Own} {f : Fp}, kvs.map (·.1) = kds.map (·.1) → Rs K cl Hf H (kvs.map (·.2)) (kds.map (·.2)) os f →
    (dval kds k = none → valV kvs k = none) ∧ ∀ d, dval kds k = some d → ∃ v o g, valV kvs k = some v ∧ R1 K cl Hf H v d o g ∧ o ∈ os ∧ ∀ b, g b ≤ f b
  | [], kds, os, f, hk, r => by
    cases kds with
    | nil => exact ⟨fun _ => rfl, fun d h => by cases h⟩
    | cons p ps => cases hk
  | q :: kvs, kds, os, f, hk, r => by
    cases kds with
    | nil => cases hk
    | cons p ps =>
      simp only [List.map_cons] at hk r
      obtain ⟨e1, e2⟩ := List.cons.inj hk
      cases r with
      | @cons f1 g1 _ _ _ _ _ o os' r rs hf =>
        obtain ⟨i1, i2⟩ := valV_rel (k := k) e2 rs
        by_cases c : p.1 = k
        · have a1 : dval (p :: ps) k = some p.2 := by simp [dval, List.find?_cons, c]
          have a2 : valV (q :: kvs) k = some q.2 := valV_pos (e1.trans c)
          rw [a1, a2]
          exact ⟨fun h => (nomatch h), fun d h => by cases h; exact ⟨_, _, _, rfl, r, List.mem_cons_self .., fun b => by rw [hf]; omega⟩⟩
        · have a1 : dval (p :: ps) k = dval ps k := by simp [dval, List.find?_cons, c]
          have a2 : valV (q :: kvs) k = valV kvs k := valV_neg fun h => c (e1.symm.trans h)
          rw [a1, a2]
          refine ⟨i1, fun d h => ?_⟩
          obtain ⟨v, o', g, h1, h2, h3, h4⟩ := i2 d h
          exact ⟨v, o', g, h1, h2, List.mem_cons_of_mem _ h3, fun b => by rw [hf]; have := h4 b; omega⟩
theorem key_rel {v : V} {d : D} {o : Own} {f : Fp} {k : Key} (r : R1 K cl Hf H v d o f) (h : keyOf d = some k) : v = kV k := by
  unfold keyOf at h
  split at h
  · cases h; exact r.isInt.1
  · cases h; exact r.isStr.1
  · cases h
theorem keys_rel : ∀ {vs : List V} {ds : List D} {os : List Own} {f : Fp} {ks : List Key}, Rs K cl Hf H vs ds os f → keysOf ds = some ks → vs = ks.map kV
  | [], ds, os, f, ks, r, h => by cases r; cases h; rfl
  | v :: vs, ds, os, f, ks, r, h => by
    cases r with
    | cons r rs hf =>
      rw [keysOf] at h
      split at h
      · rename_i k ks' h1 h2
        cases h
        rw [key_rel r h1, keys_rel rs h2]; rfl
      · cases h
/-- what a dict says of a key -/
def dGet (d k : D) : Option (Option D) := match d with
  | .dic kvs => (keyOf k).map fun k => dval kvs k
  | .dit kvs => (tkeyOf k).map fun k => dval kvs k
  | _ => none
theorem dGet_rel {x y : D} {w u : Own} {v1 v2 : V} {f1 f2 : Fp} {r : Option D} (s : Same Hf H) (hx : R1 K cl Hf H v1 x w f1) (hy : R1 K cl Hf H v2 y u f2) (h : dGet x y = some r) :
    ∃ a z, v1 = .ref a ∧ DGet H a v2 z ∧ IsD H a ∧ (r = none → z = none) ∧ ∀ d, r = some d → ∃ v o g, z = some v ∧ R1 K cl Hf H v d o g ∧ o = w.item ∧ ∀ b, g b ≤ f1 b := by
  unfold dGet at h
  split at h
  · obtain ⟨a, kvs, os, g, rfl, ha, hk, rs, ho, hg⟩ := hx.isDic s
    cases e : keyOf y with
    | none => rw [e] at h; cases h
    | some k =>
      rw [e] at h; cases h
      have := key_rel hy e
      subst this
      obtain ⟨i1, i2⟩ := valV_rel (k := k) hk rs
      refine ⟨a, _, rfl, DGet.k ha, .inl ⟨kvs, .inl ha⟩, i1, fun d hd => ?_⟩
      obtain ⟨v, o', g', h1, h2, h3, h4⟩ := i2 d hd
      exact ⟨v, o', g', h1, h2, ho _ h3, fun b => Nat.le_trans (h4 b) (hg b)⟩
  · obtain ⟨a, kvs, os, g, rfl, ha, hk, rs, ho, hg⟩ := hx.isDit s
    cases e : tkeyOf y with
    | none => rw [e] at h; cases h
    | some k =>
      rw [e] at h; cases h
      unfold tkeyOf at e
      split at e
      · obtain ⟨b, vs, os', rfl, hb, _, rs', _⟩ := hy.isTup s
        have := keys_rel rs' e
        subst this
        obtain ⟨i1, i2⟩ := valV_rel (k := k) hk rs
        refine ⟨a, _, rfl, DGet.t ha hb, .inr ⟨kvs, .inl ha⟩, i1, fun d hd => ?_⟩
        obtain ⟨v, o', g', h1, h2, h3, h4⟩ := i2 d hd
        exact ⟨v, o', g', h1, h2, ho _ h3, fun b => Nat.le_trans (h4 b) (hg b)⟩
      · cases e
  · cases h
end
section
variable {X : Cx} {cl : String → Addr} {C : Pc} {W : WX} {p p1 p2 p3 o o1 o2 o3 : Bool} {e a b c : Expr} {es : List Expr} {fe fa fb fc : M DO} {fs : M (List DO)} {pos : Pos}
theorem pe_or2 {t u : TE} (h1 : PE X e t) (h2 : PE X e u) : PE X e (fun σ H Q => t σ H Q ∨ u σ H Q) := ⟨fun pins s σ H Q I h => by
  rcases h with h | h
  · exact h1.run pins s σ H Q I h
  · exact h2.run pins s σ H Q I h⟩
def isDict : D → Bool
  | .dic _ => true
  | .dit _ => true
  | _ => false
/-- d[k] of a dict, x[i] of a row; what is handed out is frozen -/
def gSub1 (x y : DO) : M DO := fun ρ => if isDict x.1 = true then (match dGet x.1 y.1 with | some (some d) => if x.2.fl = true then .ok (d, .no) ρ else .stuck | _ => .stuck) else gIx x y ρ
def rSubD : R2 := fun x y H Q => ∃ a v, x = .ref a ∧ DGet H a y (some v) ∧ Q v H
theorem qx_sub1 (hu : X.A.units + 1 < cLine) (ha : QX X cl C W p1 o1 a fa) (hb : QX X cl C W p2 o2 b fb) (hs : NoSl b := by exact fun _ _ => rfl) (hc : (o1 || p2) = true := by rfl) : QX X cl C W (p1 && p2) true (.Subscript a b pos) (m2 gSub1 fa fb) := by
  obtain ⟨ta, pa, da⟩ := ha
  obtain ⟨tb, pb, db⟩ := hb
  refine ⟨_, pe_or2 (pe_ix ix_seq pa pb hs) (pe_dget hu pa pb hs), fun σ H Q ρ Hf fp G w => ?_⟩
  by_cases h : ∃ x ρ1, fa ρ = .ok x ρ1 ∧ isDict x.1 = true
  · obtain ⟨x0, ρ1, hx, hd⟩ := h
    refine .inr ?_
    show tOp rSubD ta tb σ H Q
    refine den2 (g := fun x y ρ' => if isDict x.1 = true then gSub1 x y ρ' else .stuck) da db (fun σ H Q ρ Hf fp x y v1 v2 f1 f2 G r1 r2 w => ?_) hc σ H Q ρ Hf fp G ?_
    · dsimp only at w
      split at w
      · rename_i hdd
        unfold gSub1 at w
        rw [if_pos hdd] at w
        split at w
        · rename_i d ed
          obtain ⟨a, z, rfl, hg, _, _, hz⟩ := dGet_rel G.sub r1 r2 ed
          obtain ⟨v, o', g', rfl, rv, ho, _⟩ := hz d rfl
          split at w
          · rename_i hfl
            rw [Own.fl_item hfl] at ho
            subst ho
            exact ⟨a, v, rfl, hg, POk.keep w G rv⟩
          · exact False.elim w
        · exact False.elim w
      · exact False.elim w
    · unfold m2 M.bind at w
      unfold M.bind
      rw [hx] at w ⊢
      dsimp only at w ⊢
      cases e2 : fb ρ1 with
      | stuck => rw [e2] at w; exact w
      | err c fs ρ2 => rw [e2] at w; exact w
      | ok y ρ2 =>
        rw [e2] at w
        dsimp only at w ⊢
        rw [if_pos hd]
        exact w
  · refine .inl ?_
    refine den2 (g := fun x y ρ' => if isDict x.1 = true then .stuck else gIx x y ρ') da db (fun σ H Q ρ Hf fp x y v1 v2 f1 f2 G r1 r2 w => ?_) hc σ H Q ρ Hf fp G ?_
    · dsimp only at w
      split at w
      · exact False.elim w
      · exact dr_ix σ H Q ρ Hf fp x y v1 v2 f1 f2 G r1 r2 w
    · unfold m2 M.bind at w
      unfold M.bind
      cases e : fa ρ with
      | stuck => rw [e] at w; exact w
      | err c fs ρ1 => rw [e] at w; exact w
      | ok x ρ1 =>
        rw [e] at w
        dsimp only at w ⊢
        cases e2 : fb ρ1 with
        | stuck => rw [e2] at w; exact w
        | err c fs ρ2 => rw [e2] at w; exact w
        | ok y ρ2 =>
          rw [e2] at w
          dsimp only at w ⊢
          have hn : ¬ isDict x.1 = true := fun hh => h ⟨x, ρ1, e, hh⟩
          rw [if_neg hn]
          unfold gSub1 at w
          rw [if_neg hn] at w
          exact w
/-! x in d -/
def gDIn (neg : Bool) (x y : DO) : M DO := fun ρ => match dGet y.1 x.1 with
  | some r => .ok (.bl (if neg then !r.isSome else r.isSome), .no) ρ
  | none => .stuck
def rDIn (neg : Bool) : R2 := fun y x H Q => ∃ a o, x = .ref a ∧ DGet H a y o ∧ Q (.bl (if neg then !o.isSome else o.isSome)) H
theorem dr_dIn {K : PySem.W.Frag} {neg : Bool} : DR2 K cl C W true true (rDIn neg) (gDIn neg) := by
  intro σ H Q ρ Hf fp x y v1 v2 f1 f2 G r1 r2 w
  unfold gDIn at w
  split at w
  · rename_i r er
    obtain ⟨a, z, rfl, hg, _, h1, h2⟩ := dGet_rel G.sub r2 r1 er
    refine ⟨a, z, rfl, hg, ?_⟩
    have e : z.isSome = r.isSome := by
      cases r with
      | none => rw [h1 rfl]; rfl
      | some d => obtain ⟨v, _, _, e, _⟩ := h2 d rfl; rw [e]; rfl
    rw [e]
    exact POk.keep w G (r_bl _)
  · exact False.elim w
/-- x in y, y a dict or not -/
def gInD (neg : Bool) (x y : DO) : M DO := fun ρ => if isDict y.1 = true then gDIn neg x y ρ else (if neg then gNotIn x y ρ else gIn x y ρ)
theorem tdin_eq {ta tb : TE} : tDIn ta tb = tOp (rDIn false) ta tb := rfl
theorem tdnotin_eq {ta tb : TE} : tDNotIn ta tb = tOp (rDIn true) ta tb := rfl
/-- choosing by the second operand -/
theorem den2y {K : PySem.W.Frag} {ta tb : TE} {r r' : R2} {g : DO → DO → M DO} {ch : D → Bool} (ha : Den K cl C W p1 o1 ta fa) (hb : Den K cl C W p2 o2 tb fb) (hc : (o1 || p2) = true)
    (h1 : DR2 K cl C W true true r fun x y ρ => if ch y.1 = true then g x y ρ else .stuck) (h2 : DR2 K cl C W true true r' fun x y ρ => if ch y.1 = true then .stuck else g x y ρ) :
    Den K cl C W (p1 && p2) true (fun σ H Q => tOp r ta tb σ H Q ∨ tOp r' ta tb σ H Q) (m2 g fa fb) := by
  intro σ H Q ρ Hf fp G w
  by_cases h : ∃ x ρ1 y ρ2, fa ρ = .ok x ρ1 ∧ fb ρ1 = .ok y ρ2 ∧ ch y.1 = true
  · obtain ⟨x, ρ1, y, ρ2, e1, e2, e3⟩ := h
    refine .inl (den2 ha hb h1 hc σ H Q ρ Hf fp G ?_)
    unfold m2 M.bind at w
    unfold M.bind
    rw [e1] at w ⊢
    dsimp only at w ⊢
    rw [e2] at w ⊢
    dsimp only at w ⊢
    rw [if_pos e3]
    exact w
  · refine .inr (den2 ha hb h2 hc σ H Q ρ Hf fp G ?_)
    unfold m2 M.bind at w
    unfold M.bind
    cases e : fa ρ with
    | stuck => rw [e] at w; exact w
    | err c fs ρ1 => rw [e] at w; exact w
    | ok x ρ1 =>
      rw [e] at w
      dsimp only at w ⊢
      cases e2 : fb ρ1 with
      | stuck => rw [e2] at w; exact w
      | err c fs ρ2 => rw [e2] at w; exact w
      | ok y ρ2 =>
        rw [e2] at w
        dsimp only at w ⊢
        have hn : ¬ ch y.1 = true := fun hh => h ⟨x, ρ1, y, ρ2, e, e2, hh⟩
        rw [if_neg hn]
        exact w
theorem dr_inD1 {K : PySem.W.Frag} {neg : Bool} : DR2 K cl C W true true (rDIn neg) fun x y ρ => if isDict y.1 = true then gInD neg x y ρ else .stuck := by
  intro σ H Q ρ Hf fp x y v1 v2 f1 f2 G r1 r2 w
  dsimp only at w
  split at w
  · rename_i h
    unfold gInD at w
    rw [if_pos h] at w
    exact dr_dIn σ H Q ρ Hf fp x y v1 v2 f1 f2 G r1 r2 w
  · exact False.elim w
theorem dr_inD2 {K : PySem.W.Frag} {neg : Bool} : DR2 K cl C W true true (rInA K neg) fun x y ρ => if isDict y.1 = true then .stuck else gInD neg x y ρ := by
  intro σ H Q ρ Hf fp x y v1 v2 f1 f2 G r1 r2 w
  dsimp only at w
  split at w
  · exact False.elim w
  · rename_i h
    unfold gInD at w
    rw [if_neg h] at w
    cases neg with
    | true => exact dr_notIn σ H Q ρ Hf fp x y v1 v2 f1 f2 G r1 r2 w
    | false => exact dr_in σ H Q ρ Hf fp x y v1 v2 f1 f2 G r1 r2 w
theorem pc_or2 {op : CmpOp} {t u : TE} (h1 : PC X op a b t) (h2 : PC X op a b u) : PC X op a b (fun σ H Q => t σ H Q ∨ u σ H Q) := ⟨fun pins s σ H Q I h => by
  rcases h with h | h
  · exact h1.run pins s σ H Q I h
  · exact h2.run pins s σ H Q I h⟩
theorem pc_opR {op : CmpOp} {r : R2} {ta tb : TE} (ho : OpR X (compareOp op) r) (ha : PE X a ta) (hb : PE X b tb) : PC X op a b (tOp r ta tb) :=
  ⟨fun pins s σ H Q I h => binT ha hb I h fun v u s2 x y H2 I2 rx ry q => ho pins s2 σ H2 x y v u Q I2 rx ry q⟩
theorem qx_in (hu : X.A.units + 1 < cLine) (ha : QX X cl C W p1 o1 a fa) (hb : QX X cl C W p2 o2 b fb) (hm : behindInMarks .In b = false := by rfl) (hc : (o1 || p2) = true := by rfl) : QX X cl C W (p1 && p2) true (.Compare a [.In] [b] pos) (m2 (gInD false) fa fb) := by
  obtain ⟨ta, pa, da⟩ := ha
  obtain ⟨tb, pb, db⟩ := hb
  exact ⟨_, pe_cmp (pc_or2 (pc_din hu pa pb) (pc_opR op_inA pa pb)) hm, den2y da db hc dr_inD1 dr_inD2⟩
theorem qx_notIn (hu : X.A.units + 1 < cLine) (ha : QX X cl C W p1 o1 a fa) (hb : QX X cl C W p2 o2 b fb) (hm : behindInMarks .NotIn b = false := by rfl) (hc : (o1 || p2) = true := by rfl) : QX X cl C W (p1 && p2) true (.Compare a [.NotIn] [b] pos) (m2 (gInD true) fa fb) := by
  obtain ⟨ta, pa, da⟩ := ha
  obtain ⟨tb, pb, db⟩ := hb
  exact ⟨_, pe_cmp (pc_or2 (pc_dnotin hu pa pb) (pc_opR op_notInA pa pb)) hm, den2y da db hc dr_inD1 dr_inD2⟩
theorem denB' {K : PySem.W.Frag} {t : TE} (h : Den K cl C W p o t fe) : DenT K cl C W p (tB t) (mBool fe) := denB h
theorem qt_in (hu : X.A.units + 1 < cLine) (ha : QX X cl C W p1 o1 a fa) (hb : QX X cl C W p2 o2 b fb) (hm : behindInMarks .In b = false := by rfl) (hc : (o1 || p2) = true := by rfl) : QT X cl C W (p1 && p2) (.Compare a [.In] [b] pos) (mBool (m2 (gInD false) fa fb)) := by
  obtain ⟨ta, pa, da⟩ := ha
  obtain ⟨tb, pb, db⟩ := hb
  exact ⟨_, pt_cmp (pc_or2 (pc_din hu pa pb) (pc_opR op_inA pa pb)) hm, denB' (den2y da db hc dr_inD1 dr_inD2)⟩
theorem qt_notIn (hu : X.A.units + 1 < cLine) (ha : QX X cl C W p1 o1 a fa) (hb : QX X cl C W p2 o2 b fb) (hm : behindInMarks .NotIn b = false := by rfl) (hc : (o1 || p2) = true := by rfl) : QT X cl C W (p1 && p2) (.Compare a [.NotIn] [b] pos) (mBool (m2 (gInD true) fa fb)) := by
  obtain ⟨ta, pa, da⟩ := ha
  obtain ⟨tb, pb, db⟩ := hb
  exact ⟨_, pt_cmp (pc_or2 (pc_dnotin hu pa pb) (pc_opR op_notInA pa pb)) hm, denB' (den2y da db hc dr_inD1 dr_inD2)⟩
end
end DL
namespace DL
open PySem PySem.Spec L2
/-! ### fields -/
theorem ofString_inj {a b : String} (h : Str.ofString a = Str.ofString b) : a = b := by
  rw [Str.ofString_eq_toList, Str.ofString_eq_toList] at h
  have h1 : (a.toList.map Char.toNat).toArray = (b.toList.map Char.toNat).toArray := congrArg Str.cps h
  have h2 : a.toList.map Char.toNat = b.toList.map Char.toNat := by
    have := congrArg Array.toList h1
    simpa using this
  have inj : ∀ (x y : List Char), x.map Char.toNat = y.map Char.toNat → x = y := by
    intro x
    induction x with
    | nil => intro y h; cases y with | nil => rfl | cons c y => cases h
    | cons c x ih =>
      intro y h
      cases y with
      | nil => cases h
      | cons d y =>
        simp only [List.map_cons, List.cons.injEq] at h
        have hc : c = d := Char.ext (UInt32.toNat_inj.mp h.1)
        rw [hc, ih y h.2]
  exact String.toList_inj.mp (inj _ _ h2)
def fput (f : String) (v : D) : List (String × D) → List (String × D)
  | [] => [(f, v)]
  | (g, x) :: r => if g = f then (g, v) :: r else (g, x) :: fput f v r
def sameOwn : Own → Own → Bool
  | .no, .no => true
  | .lst a, .lst b => sameOwn a b
  | _, _ => false
theorem sameOwn_ok : ∀ {a b : Own}, sameOwn a b = true → a = b
  | .no, .no, _ => rfl
  | .lst a, .lst b, h => congrArg Own.lst (sameOwn_ok h)
  | .no, .lst _, h => by cases h
  | .no, .obj _, h => by cases h
  | .lst _, .no, h => by cases h
  | .lst _, .obj _, h => by cases h
  | .obj _, .no, h => by cases h
  | .obj _, .lst _, h => by cases h
  | .obj _, .obj _, h => by cases h
def oput (f : String) (v : D) (o : Own) (fo : List (String × Own)) : List (String × Own) := if sameOwn (ownF fo f) o = true then fo else (f, o) :: fo
section
variable {K : PySem.W.Frag} {cl : String → Addr} {Hf H : Hp}
theorem lookup_rel {k : String} {g : String × D → Own} : ∀ {fvs : List (Str × V)} {fds : List (String × D)} {os : List Own} {f : Fp}, fvs.map (·.1) = fds.map (fun p => Str.ofString p.1) → Rs K cl Hf H (fvs.map (·.2)) (fds.map (·.2)) os f →
    (fds.lookup k = none → fvs.lookup (Str.ofString k) = none) ∧ ∀ d, fds.lookup k = some d → ∃ v o g, fvs.lookup (Str.ofString k) = some v ∧ R1 K cl Hf H v d o g ∧ (∀ h : String → Own, os = fds.map (fun p => h p.1) → o = h k) ∧ ∀ b, g b ≤ f b
  | [], fds, os, f, hk, r => by
    cases fds with
    | nil => exact ⟨fun _ => rfl, fun d h => by cases h⟩
    | cons p ps => cases hk
  | q :: fvs, fds, os, f, hk, r => by
    cases fds with
    | nil => cases hk
    | cons p ps =>
      simp only [List.map_cons] at hk r
      obtain ⟨e1, e2⟩ := List.cons.inj hk
      cases r with
      | @cons f1 g1 _ _ _ _ _ o os' r rs hf =>
        obtain ⟨i1, i2⟩ := lookup_rel (k := k) (g := g) e2 rs
        by_cases c : k = p.1
        · have a1 : List.lookup k (p :: ps) = some p.2 := by
            obtain ⟨p1, p2⟩ := p
            cases c
            simp [List.lookup]
          have a2 : List.lookup (Str.ofString k) (q :: fvs) = some q.2 := by
            obtain ⟨q1, q2⟩ := q
            cases c
            have : q1 = Str.ofString p.1 := e1
            subst this
            simp [List.lookup]
          rw [a1, a2]
          exact ⟨fun h => (nomatch h), fun d h => by cases h; exact ⟨_, _, _, rfl, r, fun h e => by cases c; exact (List.cons.inj e).1, fun b => by rw [hf]; omega⟩⟩
        · have a1 : List.lookup k (p :: ps) = List.lookup k ps := by
            obtain ⟨p1, p2⟩ := p
            have : (k == p1) = false := by simpa using c
            simp [List.lookup, this]
          have a2 : List.lookup (Str.ofString k) (q :: fvs) = List.lookup (Str.ofString k) fvs := by
            obtain ⟨q1, q2⟩ := q
            have hne : ¬ Str.ofString k = q1 := fun h => c (ofString_inj (h.trans e1))
            have : (Str.ofString k == q1) = false := by simpa using hne
            simp [List.lookup, this]
          rw [a1, a2]
          refine ⟨i1, fun d h => ?_⟩
          obtain ⟨v, o', g', h1, h2, h3, h4⟩ := i2 d h
          exact ⟨v, o', g', h1, h2, fun h e => h3 h (List.cons.inj e).2, fun b => by rw [hf]; have := h4 b; omega⟩
end
/-- the classes and their attributes -/
abbrev CT := List (String × List String)
def CTOk (K : PySem.W.Frag) (cl : String → Addr) (tab : CT) : Prop := ∀ c fs, tab.lookup c = some fs → Cls K (cl c) ∧ ∀ f ∈ fs, NoAttr K (cl c) (Str.ofString f)
def hasF (tab : CT) (c f : String) : Bool := match tab.lookup c with
  | some fs => fs.contains f
  | none => false
theorem hasF_ok {K : PySem.W.Frag} {cl : String → Addr} {tab : CT} {c f : String} (T : CTOk K cl tab) (h : hasF tab c f = true) : Cls K (cl c) ∧ NoAttr K (cl c) (Str.ofString f) := by
  unfold hasF at h
  split at h
  · rename_i fs e
    obtain ⟨a, b⟩ := T c fs e
    exact ⟨a, b f (List.contains_iff_mem.mp h)⟩
  · cases h
def fldOwn : Own → String → Own
  | .obj fo, f => ownF fo f
  | _, _ => .no
/-- o.f -/
def gFld (tab : CT) (f : String) (x : DO) : M DO := fun ρ => match x.1 with
  | .obj c fds => if hasF tab c f = true then (match fds.lookup f with | some d => .ok (d, fldOwn x.2 f) ρ | none => .stuck) else .stuck
  | _ => .stuck
def mFld (tab : CT) (f : String) (fe : M DO) : M DO := M.bind fe (gFld tab f)
section
variable {X : Cx} {cl : String → Addr} {C : Pc} {W : WX} {p p1 p2 p3 o o1 o2 o3 : Bool} {e a b c : Expr} {es : List Expr} {fe fa fb fc : M DO} {fs : M (List DO)} {pos : Pos}
theorem qx_fld {tab : CT} (T : CTOk X.K cl tab) (f : String) (h : QX X cl C W p o e fe) (hb : attributeBase e (Str.ofString f) X.env (eval e X.env) = eval e X.env := by rfl) : QX X cl C W p false (.Attribute e (Str.ofString f) pos) (mFld tab f fe) := by
  obtain ⟨t, pe, dn⟩ := h
  refine ⟨_, pe_fld pe hb, fun σ H Q ρ Hf fp G w => dn.bind G w fun x ρ1 v Hf1 H1 fp1 fd G1 r1 F1 c1 q1 w1 => ?_⟩
  unfold gFld at w1
  split at w1
  · rename_i c fds ec
    rw [ec] at r1
    split at w1
    · rename_i hh
      obtain ⟨hc, hn⟩ := hasF_ok T hh
      split at w1
      · rename_i d hd
        have fin : ∀ (a dx : Addr) (fvs : List (Str × V)) (os : List Own) (g : Fp), v = .ref a → H1 a = some (.ins (cl c) dx fvs) → fvs.map (·.1) = fds.map (fun p => Str.ofString p.1) → Rs X.K cl Hf1 H1 (fvs.map (·.2)) (fds.map (·.2)) os g →
            (∃ h : String → Own, os = fds.map (fun p => h p.1) ∧ h f = fldOwn x.2 f) → ∃ a C dx fs v', v = .ref a ∧ H1 a = some (.ins C dx fs) ∧ Cls X.K C ∧ NoAttr X.K C (Str.ofString f) ∧ fs.lookup (Str.ofString f) = some v' ∧ Q v' H1 := by
          intro a dx fvs os g ev ha hk rs ⟨h, eo, eh⟩
          obtain ⟨_, i2⟩ := lookup_rel (k := f) (g := fun _ => .no) hk rs
          obtain ⟨v', o', g', h1, h2, h3, h4⟩ := i2 d hd
          refine ⟨a, _, dx, fvs, v', ev, ha, hc, hn, h1, w1 v' Hf1 H1 fp1 g' G1 ?_ F1 (fun e => nomatch e) q1⟩
          rw [h3 h eo, eh] at h2
          exact h2
        generalize hox : x.2 = ox at r1 fin
        cases r1 with
        | @objF _ a dx _ fvs _ os h hk r ho hf =>
          refine fin a dx fvs os _ rfl (G1.sub _ _ h) hk r ⟨fun _ => .no, ?_, rfl⟩
          have hl := r.len.2
          rw [List.length_map] at hl
          refine List.ext_getElem (by simp [hl]) fun i h1 h2 => ?_
          simp [ho _ (List.getElem_mem h1)]
        | @objO f' g a dx _ fvs _ os fo h hn' hk r ho hf =>
          exact fin a dx fvs os g rfl h hk r ⟨fun k => ownF fo k, ho, rfl⟩
      · exact False.elim w1
    · exact False.elim w1
  · exact False.elim w1
/-! ### slices -/
structure QO (X : Cx) (cl : String → Addr) (C : Pc) (W : WX) (p : Bool) (e : Option Expr) (f : M (Option Int)) : Prop where
  ex : ∃ t, PO X e t ∧ ∀ σ H Q ρ Hf fp, Good X.K cl C Hf H σ ρ fp → Wz X.K cl C W σ Hf H fp (f ρ) (fun i ρ' => ∀ Hf' H' fp', Good X.K cl C Hf' H' σ ρ' fp' → Fr Hf H fp Hf' H' fp' → (p = true → Quiet Hf H fp Hf' H') → Q i H') → t σ H Q
def mPart (f : M DO) : M (Option Int) := M.bind f fun x ρ => match x.1 with | .int i => .ok (some i) ρ | _ => .stuck
theorem qo_none : QO X cl C W true none (M.ret none) := ⟨_, po_none, fun σ H Q ρ Hf fp G w => w Hf H fp G Fr.refl fun _ => Quiet.refl fun b hb => (G.live b hb).2⟩
theorem qo_some (h : QX X cl C W p o e fe) : QO X cl C W p (some e) (mPart fe) := by
  obtain ⟨t, pe, dn⟩ := h
  refine ⟨_, po_some pe, fun σ H Q ρ Hf fp G w => dn.bind G w fun x ρ1 v Hf1 H1 fp1 fd G1 r1 F1 c1 q1 w1 => ?_⟩
  split at w1
  · rename_i i e
    rw [e] at r1
    obtain ⟨rfl, _⟩ := r1.isInt
    exact ⟨i, rfl, w1 Hf1 H1 fp1 G1 F1 q1⟩
  · exact False.elim w1
theorem QO.bind' {K : PySem.W.Frag} {t : TO} {f : M (Option Int)} {β : Type} {k : Option Int → M β} {P : β → Env → Prop} {T : Option Int → Hp → Prop} {σ : L2.St} {H Hf : Hp} {ρ : Env} {fp : Fp}
    (h : ∀ σ H Q ρ Hf fp, Good K cl C Hf H σ ρ fp → Wz K cl C W σ Hf H fp (f ρ) (fun i ρ' => ∀ Hf' H' fp', Good K cl C Hf' H' σ ρ' fp' → Fr Hf H fp Hf' H' fp' → (p = true → Quiet Hf H fp Hf' H') → Q i H') → t σ H Q)
    (G : Good K cl C Hf H σ ρ fp) (w : Wz K cl C W σ Hf H fp (M.bind f k ρ) P)
    (cont : ∀ x ρ1 Hf1 H1 fp1, Good K cl C Hf1 H1 σ ρ1 fp1 → Fr Hf H fp Hf1 H1 fp1 → (p = true → Quiet Hf H fp Hf1 H1) → Wz K cl C W σ Hf1 H1 fp1 (k x ρ1) P → T x H1) : t σ H T := by
  refine h σ H T ρ Hf fp G ?_
  unfold M.bind at w
  cases e : f ρ with
  | stuck => rw [e] at w; exact w
  | ok x ρ1 => rw [e] at w; exact fun Hf1 H1 fp1 G1 F1 q1 => cont x ρ1 Hf1 H1 fp1 G1 F1 q1 (w.past F1)
  | err c fs ρ1 => rw [e] at w; exact w
def mSl (fe : M DO) (fl fh : M (Option Int)) : M DO := M.bind fe fun x => M.bind fl fun lo => M.bind fh fun hi => gSl x lo hi
theorem qx_slice {lo hi : Option Expr} {fl fh : M (Option Int)} {pp : Pos} (h : QX X cl C W p o e fe) (h1 : QO X cl C W true lo fl) (h2 : QO X cl C W true hi fh) : QX X cl C W p true (.Subscript e (.Slice lo hi none pp) pos) (mSl fe fl fh) := by
  obtain ⟨t, pe, dn⟩ := h
  obtain ⟨tl, pl, dl⟩ := h1
  obtain ⟨th, ph, dh⟩ := h2
  refine ⟨_, pe_slice sl_all pe pl ph, fun σ H Q ρ Hf fp G w => dn.bind G w fun x ρ1 v Hf1 H1 fp1 fd G1 r1 F1 c1 q1 w1 => ?_⟩
  refine QO.bind' dl G1 w1 fun lo' ρ2 Hf2 H2 fp2 G2 F2 q2 w2 => ?_
  refine QO.bind' dh G2 w2 fun hi' ρ3 Hf3 H3 fp3 G3 F3 q3 w3 => ?_
  have rx := (r1.past F2 (.inr (q2 rfl))).past F3 (.inr (q3 rfl))
  exact dr_sl G3 rx (w3.imp fun z ρ' _ h => POk.from h G ((F1.trans F2).trans F3) fun e => ((q1 e).then G (q2 rfl) F2).then G (q3 rfl) F3)
/-! ### -x -/
def gNeg (x : DO) : M DO := gFlat1 (fun d => match d with | .int i => some (.int (-i)) | _ => none) x
def m1 (g : DO → M DO) (f : M DO) : M DO := M.bind f g
theorem qx_neg (h : QX X cl C W p o e fe) : QX X cl C W p true (.UnaryOp .USub e pos) (m1 gNeg fe) := by
  obtain ⟨t, pe, dn⟩ := h
  refine ⟨_, pe_un un_neg pe, fun σ H Q ρ Hf fp G w => dn.bind G w fun x ρ1 v Hf1 H1 fp1 fd G1 r1 F1 c1 q1 w1 => ?_⟩
  unfold gNeg gFlat1 at w1
  revert r1
  generalize x.1 = d at w1
  intro r1
  cases d with
  | int i => obtain ⟨rfl, _⟩ := r1.isInt; exact ⟨i, rfl, POk.keep (d := .int (-i)) (POk.from w1 G F1 q1) G1 (r_int _)⟩
  | _ => exact False.elim w1
/-! ### methods of built-in types -/
def dTy : D → Option String
  | .str _ => some "str"
  | .int _ => some "int"
  | .lst _ => some "list"
  | .lsk _ => some "list"
  | .dic _ => some "dict"
  | .dit _ => some "dict"
  | _ => none
theorem ty_rel {K : PySem.W.Frag} {Hf H : Hp} {v : V} {d : D} {w : Own} {f : Fp} {T : String} (r : R1 K cl Hf H v d w f) (s : Same Hf H) (h : dTy d = some T) : tyV K T v H := by
  unfold dTy at h
  split at h
  · cases h; obtain ⟨rfl, _⟩ := r.isStr; rfl
  · cases h; obtain ⟨rfl, _⟩ := r.isInt; rfl
  · cases h; obtain ⟨a, vs, os, g, rfl, ha, _⟩ := r.isLst s; exact .inl ⟨rfl, vs, SqL.of ha⟩
  · cases h; obtain ⟨a, vs, os, rfl, ha, _⟩ := r.isLsk s; exact .inl ⟨rfl, vs, ha⟩
  · cases h; obtain ⟨a, vs, os, g, rfl, ha, _⟩ := r.isDic s; exact .inr (.inr (.inl ⟨rfl, .inl ⟨vs, ha⟩⟩))
  · cases h; obtain ⟨a, vs, os, g, rfl, ha, _⟩ := r.isDit s; exact .inr (.inr (.inl ⟨rfl, .inr ⟨vs, ha⟩⟩))
  · cases h
def DRMt (K : PySem.W.Frag) (cl : String → Addr) (C : Pc) (W : WX) (r : V → List V → Hp → VK → Prop) (f : DO → List DO → M DO) : Prop := ∀ σ H Q ρ Hf fp (x : DO) (xs : List DO) v vs f0 f1, Good K cl C Hf H σ ρ fp → R1 K cl Hf H v x.1 x.2 f0 → Rs K cl Hf H vs (xs.map (·.1)) (xs.map (·.2)) f1 →
  Wz K cl C W σ Hf H fp (f x xs ρ) (POk K cl C true true σ Hf H fp Q) → r v vs H Q
def mMeth (T : String) (g : DO → List DO → M DO) (fo : M DO) (fs : M (List DO)) : M DO := M.bind fo fun x => if dTy x.1 = some T then M.bind fs fun xs => g x xs else M.stuck
theorem qx_meth {name : Str} {apos cpos : Pos} {T id : String} {r : V → List V → Hp → VK → Prop} {g : DO → List DO → M DO} (pa : PlainAttrs T) (slot : Slot T name id) (hty : typeOf (.builtin id) = pure (.type "method_descriptor")) (hm : MtR X id r) (hg : DRMt X.K cl C W r g)
    (ho : QX X cl C W p1 o1 a fa) (ha : QA X cl C W p2 o2 (e :: es) fs)
    (hbase : attributeBase a name X.env (eval a X.env) = eval a X.env := by rfl)
    (hfew : ((backTo cpos (starEach (e :: es) X.env)).all (fun x => !x.1) && (backToKw cpos (keywordEach [] X.env)).all (fun x => x.1.isSome)
      && decide ((e :: es).length + ([] : List Keyword).length + (if ([] : List Keyword).isEmpty then 0 else 1) < 30)) = true := by rfl)
    (hline : (apos.endLine == cpos.line) = true := by rfl) (hs : starEach (e :: es) X.env = (false, eval e X.env) :: starEach es X.env := by rfl) (hplain : (backTo cpos (starEach es X.env)).any (·.1) = false := by rfl) (hc : (o1 || p2) = true := by rfl) :
    QX X cl C W (p1 && p2) true (.Call (.Attribute a name apos) (e :: es) [] cpos) (mMeth T g fa fs) := by
  obtain ⟨t, pe, dn⟩ := ho
  obtain ⟨u, pu, du⟩ := ha
  refine ⟨_, pe_bm pa slot hty hm pe pu hbase hfew hline hs hplain, fun σ H Q ρ Hf fp G w => dn.bind G w fun x ρ1 v Hf1 H1 fp1 fd G1 r1 F1 c1 q1 w1 => ?_⟩
  split at w1
  · rename_i ht
    refine ⟨ty_rel r1 G1.sub ht, du.bind G1 w1 fun xs ρ2 vs Hf2 H2 fp2 fe G2 r2 F2 c2 q2 w2 => ?_⟩
    have rx : R1 X.K cl Hf2 H2 v x.1 x.2 fd := r1.past F2 (by
      cases e : o1 with
      | true => exact .inl (c1 e).1
      | false => rw [e] at hc; exact .inr (q2 hc))
    exact hg σ H2 Q ρ2 Hf2 fp2 x xs v vs fd fe G2 rx r2 (w2.imp fun z ρ' _ h => POk.from h G (F1.trans F2) fun e => by
      rw [Bool.and_eq_true] at e
      exact (q1 e.1).then G (q2 e.2) F2)
  · exact False.elim w1
/-- a method of a text with one text -/
theorem drm_str1 {K : PySem.W.Frag} {r : V → List V → Hp → VK → Prop} {g : Str → Str → Option D} {gv : Str → Str → V} (hg : ∀ a b d (Hf H : Hp), g a b = some d → R1 K cl Hf H (gv a b) d .no Fp.z) (h : ∀ a b d H Q, g a b = some d → Q (gv a b) H → r (.str a) [.str b] H Q) :
    DRMt K cl C W r (fun x xs ρ => match x.1, xs with | .str a, [y] => (match y.1 with | .str b => M.opt ((g a b).map fun d => (d, Own.no)) ρ | _ => .stuck) | _, _ => .stuck) := by
  intro σ H Q ρ Hf fp x xs v vs f0 f1 G r0 r1 w
  dsimp only at w
  split at w
  · rename_i a y e
    rw [e] at r0
    obtain ⟨rfl, _⟩ := r0.isStr
    split at w
    · rename_i b e2
      cases r1 with
      | cons r1 rs hf =>
        cases rs
        dsimp only at r1
        rw [e2] at r1
        obtain ⟨rfl, _⟩ := r1.isStr
        cases eg : g a b with
        | none => rw [eg] at w; exact False.elim w
        | some d =>
          rw [eg] at w
          exact h a b d H Q eg (POk.keep w G (hg a b d _ _ eg))
    · exact False.elim w
  · exact False.elim w
def gStr1 (g : Str → Str → Option D) (x : DO) (xs : List DO) : M DO := fun ρ => match x.1, xs with | .str a, [y] => (match y.1 with | .str b => M.opt ((g a b).map fun d => (d, Own.no)) ρ | _ => .stuck) | _, _ => .stuck
def gStartswith := gStr1 fun a b => some (.bl (Txt.startswith a b))
def gEndswith := gStr1 fun a b => some (.bl (Txt.endswith a b))
def gFind := gStr1 fun a b => some (.int (Txt.find a b))
def gCount := gStr1 fun a b => some (.int (Txt.count a b))
def gSIndex := gStr1 fun a b => (Txt.index0 a b).map fun k => .int (k : Nat)
theorem drm_startswith {K : PySem.W.Frag} : DRMt K cl C W (fun x xs H Q => ∃ a b, x = .str a ∧ xs = [.str b] ∧ Q (.bl (Txt.startswith a b)) H) gStartswith := drm_str1 (gv := fun a b => .bl (Txt.startswith a b)) (fun a b d Hf H e => by cases e; exact r_bl _) fun a b d H Q e q => ⟨a, b, rfl, rfl, q⟩
theorem drm_endswith {K : PySem.W.Frag} : DRMt K cl C W (fun x xs H Q => ∃ a b, x = .str a ∧ xs = [.str b] ∧ Q (.bl (Txt.endswith a b)) H) gEndswith := drm_str1 (gv := fun a b => .bl (Txt.endswith a b)) (fun a b d Hf H e => by cases e; exact r_bl _) fun a b d H Q e q => ⟨a, b, rfl, rfl, q⟩
theorem drm_find {K : PySem.W.Frag} : DRMt K cl C W (fun x xs H Q => ∃ a b, x = .str a ∧ xs = [.str b] ∧ Q (.int (Txt.find a b)) H) gFind := drm_str1 (gv := fun a b => .int (Txt.find a b)) (fun a b d Hf H e => by cases e; exact r_int _) fun a b d H Q e q => ⟨a, b, rfl, rfl, q⟩
theorem drm_count {K : PySem.W.Frag} : DRMt K cl C W (fun x xs H Q => ∃ a b, x = .str a ∧ xs = [.str b] ∧ Q (.int (Txt.count a b)) H) gCount := drm_str1 (gv := fun a b => .int (Txt.count a b)) (fun a b d Hf H e => by cases e; exact r_int _) fun a b d H Q e q => ⟨a, b, rfl, rfl, q⟩
def gJoin (x : DO) (xs : List DO) : M DO := fun ρ => match x.1, xs with
  | .str a, [y] => (match y.1 with
    | .lst ds => (match strsD ds with | some ys => if (ys.map (·.length)).sum + ys.length * a.length ≤ 16777216 then .ok (.str (Txt.join a ys), .no) ρ else .stuck | none => .stuck)
    | .tup ds => (match strsD ds with | some ys => if (ys.map (·.length)).sum + ys.length * a.length ≤ 16777216 then .ok (.str (Txt.join a ys), .no) ρ else .stuck | none => .stuck)
    | _ => .stuck)
  | _, _ => .stuck
theorem drm_join {K : PySem.W.Frag} : DRMt K cl C W (fun x xs H Q => ∃ a p, ∃ ys : List Str, x = .str a ∧ xs = [.ref p] ∧ (SqL K H p (ys.map V.str) ∨ SqT K H p (ys.map V.str)) ∧
    (ys.map (·.length)).sum + ys.length * a.length ≤ 16777216 ∧ Q (.str (Txt.join a ys)) H) gJoin := by
  intro σ H Q ρ Hf fp x xs v vs f0 f1 G r0 r1 w
  unfold gJoin at w
  split at w
  · rename_i a y e
    rw [e] at r0
    obtain ⟨rfl, _⟩ := r0.isStr
    cases r1 with
    | cons r1 rs hf =>
      cases rs
      split at w
      · rename_i ds e2
        dsimp only at r1
        rw [e2] at r1
        split at w
        · rename_i ys ey
          split at w
          · rename_i hl
            obtain ⟨q, us, os, g, rfl, ha, rr, _, _⟩ := r1.isLst G.sub
            rw [strsD_eq ey] at rr
            rw [vals_strsD rr] at ha
            exact ⟨a, q, ys, rfl, rfl, .inl (SqL.of ha), hl, POk.keep w G (r_str _)⟩
          · exact False.elim w
        · exact False.elim w
      · rename_i ds e2
        dsimp only at r1
        rw [e2] at r1
        split at w
        · rename_i ys ey
          split at w
          · rename_i hl
            obtain ⟨q, us, os, rfl, ha, _, rr, _⟩ := r1.isTup G.sub
            rw [strsD_eq ey] at rr
            rw [vals_strsD rr] at ha
            exact ⟨a, q, ys, rfl, rfl, .inr (SqT.of ha), hl, POk.keep w G (r_str _)⟩
          · exact False.elim w
        · exact False.elim w
      · exact False.elim w
  · exact False.elim w
end
end DL
/-! Defs: what one promises, how it is called. -/
namespace DL
open PySem PySem.Spec L2
inductive Rf where
  | stuck
  | ok (x : DO) (ms : List DO)
  | err (c : String) (fs : List (String × D)) (ms : List DO)
/-- the arguments that are lent -/
def pick (mi : List Nat) (vs : List V) : List V := mi.map fun i => vs.getD i .non
/-- all but the lent ones are frozen -/
def lentOnly (mi : List Nat) (ds : List DO) : Prop := ∀ i x, ds[i]? = some x → i ∉ mi → x.2 = Own.no
def WF (K : PySem.W.Frag) (cl : String → Addr) (mi : List Nat) (vs : List V) (Hf H : Hp) (f : Fp) (Q : VK) (E : XK) (r : Rf) : Prop := match r with
  | .stuck => False
  | .ok x ms => ∀ v Hf' H' fd fm, Same Hf' H' → R1 K cl Hf' H' v x.1 x.2 fd → Rs K cl Hf' H' (pick mi vs) (ms.map (·.1)) (ms.map (·.2)) fm → (∀ b, fd b + fm b ≤ 1) → Fr Hf H f Hf' H' (fun b => fd b + fm b) → Q v H'
  | .err c fs ms => ∀ Hf' H' fm dx fvs os g, Same Hf' H' → Rs K cl Hf' H' (pick mi vs) (ms.map (·.1)) (ms.map (·.2)) fm → (∀ b, fm b ≤ 1) → Fr Hf H f Hf' H' fm → H' dx = some (.xd fvs) → Hf' dx = some (.xd fvs) →
      fvs.map (·.1) = fs.map (fun p => Str.ofString p.1) → Rs K cl Hf' H' (fvs.map (·.2)) (fs.map (·.2)) os g → (∀ o ∈ os, o = .no) → E (.ref (cl c)) (some dx) H'
/-- THE PROMISE of a def of n parameters by its mirror m -/
def spD (K : PySem.W.Frag) (cl : String → Addr) (n : Nat) (mi : List Nat) (m : List DO → Rf) : Sp := fun vs H Q E => vs.length = n ∧ ∃ Hf ds f, Same Hf H ∧ Rs K cl Hf H vs (ds.map (·.1)) (ds.map (·.2)) f ∧ (∀ b, f b ≤ 1) ∧ lentOnly mi ds ∧ WF K cl mi vs Hf H f Q E (m ds)
/-! ### lending -/
def takeArgs : List (Option Nat) → List DO → Env → Option (List DO × Env)
  | [], [], ρ => some ([], ρ)
  | none :: sl, x :: xs, ρ => (match x.2 with | .no => (takeArgs sl xs ρ).map fun r => (x :: r.1, r.2) | _ => none)
  | some s :: sl, _ :: xs, ρ => match ρ[s]? with
    | some (some x) => (takeArgs sl xs (ρ.set s none)).map fun r => (x :: r.1, r.2)
    | _ => none
  | _, _, _ => none
def putMuts : List (Option Nat) → List DO → Env → Env
  | none :: sl, ms, ρ => putMuts sl ms ρ
  | some s :: sl, m :: ms, ρ => putMuts sl ms (ρ.set s (some m))
  | _, _, ρ => ρ
/-- the places of the lent parameters -/
def lentIx : List (Option Nat) → Nat → List Nat
  | [], _ => []
  | none :: sl, k => lentIx sl (k + 1)
  | some _ :: sl, k => k :: lentIx sl (k + 1)
/-- the values of the lent slots -/
def slotsAt (σ : L2.St) : List (Option Nat) → List V → Prop
  | [], [] => True
  | none :: sl, _ :: vs => slotsAt σ sl vs
  | some s :: sl, v :: vs => σ[s]? = some (some v) ∧ slotsAt σ sl vs
  | _, _ => False
/-- of a row the lent ones -/
def lentV : List (Option Nat) → List V → List V
  | none :: sl, _ :: vs => lentV sl vs
  | some _ :: sl, v :: vs => v :: lentV sl vs
  | _, _ => []
theorem pick_lent : ∀ (sl : List (Option Nat)) (vs pre : List V), sl.length = vs.length → pick (lentIx sl pre.length) (pre ++ vs) = lentV sl vs
  | [], vs, pre, h => by cases vs with | nil => rfl | cons _ _ => cases h
  | none :: sl, vs, pre, h => by
    cases vs with
    | nil => cases h
    | cons v vs =>
      have := pick_lent sl vs (pre ++ [v]) (by simpa using h)
      simp only [lentIx, lentV]
      rw [List.length_append, List.append_assoc] at this
      exact this
  | some s :: sl, vs, pre, h => by
    cases vs with
    | nil => cases h
    | cons v vs =>
      have := pick_lent sl vs (pre ++ [v]) (by simpa using h)
      simp only [lentIx, lentV, pick, List.map_cons]
      rw [List.length_append, List.append_assoc] at this
      rw [show (pre ++ v :: vs).getD pre.length V.non = v by simp]
      exact congrArg (v :: ·) this
section
variable {K : PySem.W.Frag} {cl : String → Addr} {C : Pc} {Hf H Hf' H' : Hp} {σ : L2.St}
/-- the lent slots are taken out -/
theorem take_ok : ∀ {sl : List (Option Nat)} {xs : List DO} {ρ : Env} {ds : List DO} {ρ' : Env} {vs : List V} {fd fp : Fp}, takeArgs sl xs ρ = some (ds, ρ') → slotsAt σ sl vs → Rs K cl Hf H vs (xs.map (·.1)) (xs.map (·.2)) fd → EnvR K cl Hf H σ ρ fp → (∀ b, fd b + fp b ≤ 1) →
    ∃ f k, Rs K cl Hf H vs (ds.map (·.1)) (ds.map (·.2)) f ∧ EnvR K cl Hf H σ ρ' k ∧ (∀ b, f b + k b ≤ 1) ∧ (∀ b, f b ≤ fd b + fp b) ∧ (∀ b, k b ≤ fp b) ∧ sl.length = vs.length ∧ ρ'.length = ρ.length
  | [], xs, ρ, ds, ρ', vs, fd, fp, h, sa, r, e, d => by
    cases xs with
    | nil => cases h; cases r with | nil z => exact ⟨_, _, .nil z, e, fun b => by rw [z]; have := d b; omega, fun b => by rw [z]; omega, fun b => Nat.le_refl _, rfl, rfl⟩
    | cons _ _ => cases h
  | none :: sl, xs, ρ, ds, ρ', vs, fd, fp, h, sa, r, e, d => by
    cases xs with
    | nil => cases h
    | cons x xs =>
      cases r with
      | @cons f1 g1 _ v vs _ _ _ _ r rs hf =>
        simp only [takeArgs] at h
        split at h
        · rename_i ex
          dsimp only at r
          rw [ex] at r
          cases q : takeArgs sl xs ρ with
          | none => rw [q] at h; cases h
          | some y =>
            rw [q] at h; cases h
            obtain ⟨f, k, h1, h2, h3, h4, h5, h6, h7⟩ := take_ok (ds := y.1) (ρ' := y.2) q sa rs e fun b => by have := d b; rw [hf] at this; omega
            have z := r.zero_of_no
            refine ⟨f, k, .cons (f := f1) (by dsimp only; rw [ex]; exact r) h1 (fun b => by rw [z]; omega), h2, h3, fun b => by have := h4 b; rw [hf]; omega, h5, by simp [h6], h7⟩
        · cases h
  | some s :: sl, xs, ρ, ds, ρ', vs, fd, fp, h, sa, r, e, d => by
    cases xs with
    | nil => cases h
    | cons x xs =>
      cases r with
      | @cons f1 g1 _ v vs _ _ _ _ r rs hf =>
        simp only [takeArgs] at h
        split at h
        · rename_i y ey
          obtain ⟨sv, sa'⟩ := sa
          obtain ⟨v', g, k0, e1, e2, e3, e4⟩ := e.at (d := y.1) (o := y.2) ey
          rw [sv] at e1; cases e1
          cases q : takeArgs sl xs (ρ.set s none) with
          | none => rw [q] at h; cases h
          | some z =>
            rw [q] at h; cases h
            obtain ⟨f, k, h1, h2, h3, h4, h5, h6, h7⟩ := take_ok (ds := z.1) (ρ' := z.2) q sa' rs e3 fun b => by have := d b; rw [hf] at this; have := e4 b; omega
            refine ⟨fun b => g b + f b, k, .cons e2 h1 fun b => rfl, h2, fun b => ?_, fun b => ?_, fun b => by have := h5 b; have := e4 b; omega, by simp [h6], by rw [h7]; simp⟩
            · have := d b; have := e4 b; have := hf b; have := h3 b; have := h4 b; have := h5 b
              show g b + f b + k b ≤ 1
              by_cases z1 : g b = 0
              · omega
              · omega
            · have := h4 b; have := e4 b; have := hf b
              show g b + f b ≤ _
              omega
        · cases h
theorem take_lent : ∀ {sl : List (Option Nat)} {xs : List DO} {ρ : Env} {ds : List DO} {ρ' : Env} (n : Nat), takeArgs sl xs ρ = some (ds, ρ') → ∀ i x, ds[i]? = some x → n + i ∉ lentIx sl n → x.2 = Own.no
  | [], xs, ρ, ds, ρ', n, h, i, x, hx, hn => by
    cases xs with
    | nil => cases h; simp at hx
    | cons _ _ => cases h
  | none :: sl, xs, ρ, ds, ρ', n, h, i, x, hx, hn => by
    cases xs with
    | nil => cases h
    | cons y xs =>
      simp only [takeArgs] at h
      split at h
      · rename_i ex
        cases q : takeArgs sl xs ρ with
        | none => rw [q] at h; cases h
        | some z =>
          rw [q] at h; cases h
          cases i with
          | zero => simp at hx; subst hx; exact ex
          | succ i => exact take_lent (ds := z.1) (ρ' := z.2) (n + 1) q i x (by simpa using hx) (by simp only [lentIx] at hn; rwa [show n + 1 + i = n + (i + 1) by omega])
      · cases h
  | some s :: sl, xs, ρ, ds, ρ', n, h, i, x, hx, hn => by
    cases xs with
    | nil => cases h
    | cons y xs =>
      simp only [takeArgs] at h
      split at h
      · cases q : takeArgs sl xs (ρ.set s none) with
        | none => rw [q] at h; cases h
        | some z =>
          rw [q] at h; cases h
          cases i with
          | zero => exact absurd (by simp [lentIx]) hn
          | succ i => exact take_lent (ds := z.1) (ρ' := z.2) (n + 1) q i x (by simpa using hx) (by
              simp only [lentIx, List.mem_cons, not_or] at hn
              rw [show n + 1 + i = n + (i + 1) by omega]; exact hn.2)
      · cases h
/-- the lent ones are put back -/
theorem put_ok : ∀ {sl : List (Option Nat)} {ms : List DO} {ρ : Env} {vs : List V} {fm k : Fp}, slotsAt σ sl vs → Rs K cl Hf H (lentV sl vs) (ms.map (·.1)) (ms.map (·.2)) fm → EnvR K cl Hf H σ ρ k → (∀ b, fm b + k b ≤ 1) →
    ∃ k', EnvR K cl Hf H σ (putMuts sl ms ρ) k' ∧ ∀ b, k' b ≤ fm b + k b
  | [], ms, ρ, vs, fm, k, sa, r, e, d => ⟨k, e, fun b => by omega⟩
  | none :: sl, ms, ρ, vs, fm, k, sa, r, e, d => by
    cases vs with
    | nil => cases sa
    | cons v vs => exact put_ok (sl := sl) (vs := vs) sa r e d
  | some s :: sl, ms, ρ, vs, fm, k, sa, r, e, d => by
    cases vs with
    | nil => cases sa
    | cons v vs =>
      cases ms with
      | nil => cases r
      | cons m ms =>
        cases r with
        | @cons f1 g1 _ _ _ _ _ _ _ r rs hf =>
          obtain ⟨sv, sa'⟩ := sa
          obtain ⟨k0, e1, e2⟩ := e.drop s
          have hs : s < ρ.length := by rw [← e.len]; exact (List.getElem?_eq_some_iff.mp sv).1
          have e3 := e1.back (i := s) (v := v) sv r (by simp [hs])
          rw [List.set_set] at e3
          obtain ⟨k', e4, e5⟩ := put_ok (sl := sl) (vs := vs) sa' rs e3 fun b => by have := d b; have := hf b; have := e2 b; show g1 b + (f1 b + k0 b) ≤ 1; omega
          exact ⟨k', e4, fun b => by have := e5 b; have := hf b; have := e2 b; have : k' b ≤ g1 b + (f1 b + k0 b) := e5 b; omega⟩
end
/-! ### arguments, some lent -/
structure QM (X : Cx) (cl : String → Addr) (C : Pc) (W : WX) (es : List Expr) (sl : List (Option Nat)) (f : M (List DO)) : Prop where
  ex : ∃ t, PA X es t ∧ ∀ σ H Q ρ Hf fp, Good X.K cl C Hf H σ ρ fp → Wz X.K cl C W σ Hf H fp (f ρ) (fun xs ρ' => ∀ vs Hf' H' fp' fd, Good X.K cl C Hf' H' σ ρ' fp' → Rs X.K cl Hf' H' vs (xs.map (·.1)) (xs.map (·.2)) fd → slotsAt σ sl vs → Fr Hf H fp Hf' H' fp' → (∀ b, fd b + fp' b ≤ 1) → (∀ b, fd b ≠ 0 → fp b ≠ 0 ∨ H b = none) → Q vs H') → t σ H Q
section
variable {X : Cx} {cl : String → Addr} {C : Pc} {W : WX} {p p1 p2 o o1 o2 : Bool} {e a : Expr} {es : List Expr} {fe fa : M DO} {fs : M (List DO)} {pos : Pos} {sl : List (Option Nat)}
theorem qm_nil : QM X cl C W [] [] mNil := ⟨_, pa_nil, fun σ H Q ρ Hf fp G w => w [] Hf H fp Fp.z G (.nil fun _ => rfl) trivial Fr.refl (fun b => by have := G.nd b; simp [Fp.z]; omega) fun b hb => absurd rfl hb⟩
theorem qm_val (h1 : QX X cl C W p true e fe) (h2 : QM X cl C W es sl fs) (hs : starEach (e :: es) X.env = (false, eval e X.env) :: starEach es X.env := by rfl) : QM X cl C W (e :: es) (none :: sl) (mCons fe fs) := by
  obtain ⟨t, pe, dn⟩ := h1
  obtain ⟨u, pu, du⟩ := h2
  refine ⟨_, pa_cons pe pu hs, fun σ H Q ρ Hf fp G w => dn.bind G w fun x ρ1 v Hf1 H1 fp1 fd G1 r1 F1 c1 q1 w1 => ?_⟩
  refine du σ H1 _ ρ1 Hf1 fp1 G1 ?_
  unfold M.bind at w1
  obtain ⟨a1, a2⟩ := c1 rfl
  cases e : fs ρ1 with
  | stuck => rw [e] at w1; exact w1
  | err c fs ρ2 => rw [e] at w1; exact w1
  | ok xs ρ2 =>
    rw [e] at w1
    intro vs Hf2 H2 fp2 fe G2 r2 s2 F2 b1 b2
    have rx : R1 X.K cl Hf2 H2 v x.1 x.2 fd := r1.past F2 (.inl a1)
    have dis : ∀ b, fd b ≠ 0 → fe b = 0 ∧ fp2 b = 0 := fun b hb => by
      obtain ⟨⟨ob, hl⟩, _⟩ := r1.live b hb
      have z1 : fp1 b = 0 := by have := a1 b; omega
      constructor
      · by_cases z : fe b = 0
        · exact z
        · rcases b2 b z with q | q
          · exact absurd z1 q
          · rw [hl] at q; cases q
      · by_cases z : fp2 b = 0
        · exact z
        · rcases F2.new b z with q | q
          · exact absurd z1 q
          · rw [hl] at q; cases q
    refine w1 (v :: vs) Hf2 H2 fp2 (fun b => fd b + fe b) G2 (.cons rx r2 fun b => rfl) s2 (F1.trans F2) (fun b => ?_) fun b hb => ?_
    · by_cases z : fd b = 0
      · have := b1 b; show fd b + fe b + _ ≤ 1; omega
      · obtain ⟨d1, d2⟩ := dis b z
        have := a1 b; show fd b + fe b + _ ≤ 1; omega
    · by_cases z : fd b = 0
      · have hb' : fe b ≠ 0 := fun z2 => hb (by show fd b + fe b = 0; omega)
        rcases b2 b hb' with q | q
        · exact F1.new b q
        · exact .inr (F1.there b q)
      · exact a2 b z
theorem qm_mut (i : Nat) {x : Str} {pp : Pos} (h2 : QM X cl C W es sl fs) (hN : X.N[i]? = some x := by rfl) (hv : Vis X.env.scope x := by first | exact Or.inl rfl | exact Or.inr (Or.inl rfl) | exact Or.inr (Or.inr rfl)) (hd : (x == ("__debug__" : Str)) = false := by decide)
    (hcd : (x == ("__classdict__" : Str)) = false := by decide) (hs : starEach (.Name x pp :: es) X.env = (false, eval (.Name x pp) X.env) :: starEach es X.env := by rfl) : QM X cl C W (.Name x pp :: es) (some i :: sl) (mCons (M.bind (mName i) fun _ => mC .hole) fs) := by
  obtain ⟨u, pu, du⟩ := h2
  refine ⟨_, pa_cons (pe_var (i := i) hN hv hd hcd) pu hs, fun σ H Q ρ Hf fp G w => ?_⟩
  unfold mCons M.bind mName at w
  cases e : ρ[i]? with
  | none => rw [e] at w; exact False.elim w
  | some y =>
    cases y with
    | none => rw [e] at w; exact False.elim w
    | some y =>
      rw [e] at w
      obtain ⟨v, g, k, h1, h2, h3, h4⟩ := G.env.at (d := y.1) (o := y.2) e
      refine ⟨v, h1, ?_⟩
      refine du σ H _ ρ Hf fp G ?_
      dsimp only [mC] at w
      cases e2 : fs ρ with
      | stuck => rw [e2] at w; exact w
      | err c fs ρ2 => rw [e2] at w; exact w
      | ok xs ρ2 =>
        rw [e2] at w
        intro vs Hf2 H2 fp2 fe G2 r2 s2 F2 b1 b2
        exact w (v :: vs) Hf2 H2 fp2 fe G2 (.cons (.hole (f := Fp.z) v fun _ => rfl) r2 fun b => by simp [Fp.z]) ⟨h1, s2⟩ F2 b1 b2
/-! ### the call -/
def mCallF (m : List DO → Rf) (sl : List (Option Nat)) (fs : M (List DO)) : M DO := M.bind fs fun xs ρ => match takeArgs sl xs ρ with
  | none => .stuck
  | some (ds, ρ') => match m ds with
    | .stuck => .stuck
    | .ok x ms => .ok x (putMuts sl ms ρ')
    | .err c fs ms => .err c fs (putMuts sl ms ρ')
theorem Same.frzfree {Hf H Hf' H' : Hp} {f f' k : Fp} {K : PySem.W.Frag} {cl : String → Addr} {σ : L2.St} {ρ : Env} (e : EnvR K cl Hf H σ ρ k) (F : Fr Hf H f Hf' H' f') (d : ∀ b, f b + k b ≤ 1) : EnvR K cl Hf' H' σ ρ k := by
  refine e.to F.sub fun b hb => ?_
  obtain ⟨⟨o, ho⟩, hn⟩ := e.live b hb
  have z : f b = 0 := by have := d b; omega
  refine ⟨(F.keep b o ho z).trans ho.symm, ?_⟩
  cases q : Hf' b with
  | none => rfl
  | some u =>
    rcases F.newf b (by rw [q]; exact fun z => nomatch z) with r | r | r
    · exact absurd hn r
    · exact absurd z r
    · rw [ho] at r; cases r
/-- what a call comes to, behind its arguments -/
theorem call_den {σ : L2.St} {H Hf H0 Hf0 : Hp} {ρ : Env} {fp fp0 fd : Fp} {Q : VK} {E : XK} {m : List DO → Rf} {xs : List DO} {vs : List V} {n : Nat} {K : PySem.W.Frag} (hn : vs.length = n) (G : Good K cl C Hf H σ ρ fp) (r : Rs K cl Hf H vs (xs.map (·.1)) (xs.map (·.2)) fd) (sa : slotsAt σ sl vs) (d : ∀ b, fd b + fp b ≤ 1)
    (hE : ∀ c d H, W c d σ H → E c d H) {P : DO → Env → Prop} (F0 : Fr Hf0 H0 fp0 Hf H (fun b => fd b + fp b))
    (w : Wz K cl C W σ Hf0 H0 fp0 ((fun ρ => match takeArgs sl xs ρ with
      | none => Rz.stuck
      | some (ds, ρ') => match m ds with
        | .stuck => .stuck
        | .ok x ms => .ok x (putMuts sl ms ρ')
        | .err c fs ms => .err c fs (putMuts sl ms ρ')) ρ) P)
    (fin : ∀ x ρ' v Hf' H' fp' fe, P x ρ' → Good K cl C Hf' H' σ ρ' fp' → R1 K cl Hf' H' v x.1 x.2 fe → Fr Hf H (fun b => fd b + fp b) Hf' H' fp' → (∀ b, fe b + fp' b ≤ 1) → (∀ b, fe b ≠ 0 → fd b + fp b ≠ 0 ∨ H b = none) → Q v H') : spD K cl n (lentIx sl 0) m vs H Q E := by
  refine ⟨hn, ?_⟩
  dsimp only at w
  cases e : takeArgs sl xs ρ with
  | none => rw [e] at w; exact False.elim w
  | some y =>
    obtain ⟨ds, ρ'⟩ := y
    rw [e] at w
    dsimp only at w
    obtain ⟨f, k, h1, h2, h3, h4, h5, h6, h7⟩ := take_ok e sa r G.env d
    have hp : pick (lentIx sl 0) vs = lentV sl vs := by have := pick_lent sl vs [] h6; simpa using this
    refine ⟨Hf, ds, f, G.sub, h1, fun b => by have := h3 b; omega, fun i x hi hm => take_lent 0 e i x hi (by simpa using hm), ?_⟩
    -- the state behind, whatever came
    have back : ∀ {ms : List DO} {Hf' H' : Hp} {fm fe : Fp}, Same Hf' H' → Rs K cl Hf' H' (pick (lentIx sl 0) vs) (ms.map (·.1)) (ms.map (·.2)) fm → (∀ b, fe b + fm b ≤ 1) → Fr Hf H f Hf' H' (fun b => fe b + fm b) →
        ∃ k', Good K cl C Hf' H' σ (putMuts sl ms ρ') k' ∧ Fr Hf H (fun b => fd b + fp b) Hf' H' k' ∧ (∀ b, fe b + k' b ≤ 1) := by
      intro ms Hf' H' fm fe ss rr dd F
      rw [hp] at rr
      have ek := Same.frzfree h2 F h3
      have dk : ∀ b, (fe b + fm b) + k b ≤ 1 := fun b => by
        by_cases z : k b = 0
        · have := dd b; omega
        · by_cases z2 : fe b + fm b = 0
          · have := h3 b; omega
          · rcases F.new b z2 with q | q
            · have := h3 b; omega
            · obtain ⟨⟨o, ho⟩, _⟩ := h2.live b z; rw [q] at ho; cases ho
      obtain ⟨k', e1, e2⟩ := put_ok sa rr ek fun b => by have := dk b; omega
      refine ⟨k', ⟨ss, e1, fun b => by have := e2 b; have := dk b; omega, G.pin, C.mono F.sub G.fac⟩, ⟨F.sub, fun b o h z => F.keep b o h (by have := h4 b; have z : fd b + fp b = 0 := z; omega), F.there, fun b hb => ?_, fun b hb => ?_⟩, fun b => by have := e2 b; have := dk b; omega⟩
      · by_cases z : fe b + fm b = 0
        · have : k b ≠ 0 := fun z2 => hb (by have := e2 b; omega)
          exact .inl (by have := h5 b; show fd b + fp b ≠ 0; omega)
        · rcases F.new b z with q | q
          · exact .inl (by have := h4 b; show fd b + fp b ≠ 0; omega)
          · exact .inr q
      · rcases F.newf b hb with q | q | q
        · exact .inl q
        · exact .inr (.inl (by have := h4 b; show fd b + fp b ≠ 0; omega))
        · exact .inr (.inr q)
    cases em : m ds with
    | stuck => rw [em] at w; exact w
    | ok x ms =>
      rw [em] at w
      intro v Hf' H' fe fm ss rv rr dd F
      obtain ⟨k', Gk, Fk, dk⟩ := back ss rr dd F
      refine fin x _ v Hf' H' k' fe w Gk rv Fk dk fun b hb => ?_
      rcases F.new b (by show fe b + fm b ≠ 0; omega) with q | q
      · exact .inl (by have := h4 b; omega)
      · exact .inr q
    | err c fs ms =>
      rw [em] at w
      intro Hf' H' fm dx fvs os g ss rr dd F hx hx' hk hr ho
      obtain ⟨k', Gk, Fk, dk⟩ := back (fe := Fp.z) ss rr (fun b => by simp [Fp.z, dd b]) (by simpa [Fp.z] using F)
      exact hE _ _ _ (w Hf' H' k' dx fvs os g Gk (F0.trans Fk) hx hx' hk hr ho)
/-- f(e, ..): a def of the module that raises nothing -/
theorem qm_call {x : Str} {p' : Pos} {σ : L2.St} {H Hf : Hp} {ρ : Env} {fp : Fp} {Q : VK} {E : XK} {m : List DO → Rf} {t : TA} {n : Nat}
    (du : ∀ σ H Q ρ Hf fp, Good X.K cl C Hf H σ ρ fp → Wz X.K cl C W σ Hf H fp (fs ρ) (fun xs ρ' => ∀ vs Hf' H' fp' fd, Good X.K cl C Hf' H' σ ρ' fp' → Rs X.K cl Hf' H' vs (xs.map (·.1)) (xs.map (·.2)) fd → slotsAt σ sl vs → Fr Hf H fp Hf' H' fp' → (∀ b, fd b + fp' b ≤ 1) → (∀ b, fd b ≠ 0 → fp b ≠ 0 ∨ H b = none) → Q vs H') → t σ H Q)
    (hsl : ∀ vs, slotsAt σ sl vs → vs.length = n) (hE : ∀ c d H, W c d σ H → E c d H) (G : Good X.K cl C Hf H σ ρ fp) (w : Wz X.K cl C W σ Hf H fp (mCallF m sl fs ρ) (POk X.K cl C false true σ Hf H fp Q)) : t σ H fun vs H1 => spD X.K cl n (lentIx sl 0) m vs H1 Q E := by
  refine du σ H _ ρ Hf fp G ?_
  unfold mCallF M.bind at w
  cases e : fs ρ with
  | stuck => rw [e] at w; exact w
  | err c fs ρ2 => rw [e] at w; exact w
  | ok xs ρ1 =>
    rw [e] at w
    intro vs Hf1 H1 fp1 fd G1 r1 s1 F1 d1 n1
    have F1' : Fr Hf H fp Hf1 H1 (fun b => fd b + fp1 b) := F1.more fun b hb => by
      by_cases z : fd b = 0
      · exact F1.new b (by have hb : fd b + fp1 b ≠ 0 := hb; omega)
      · exact n1 b z
    exact call_den (hsl vs s1) G1 r1 s1 d1 hE F1' w fun y ρ' v Hf' H' fp' fe hP G' r' F' d' n' => hP v Hf' H' fp' fe G' r' (F1'.trans F') (fun _ => ⟨d', fun b hb => by
      rcases n' b hb with q | q
      · exact F1'.new b q
      · exact .inr (F1'.there b q)⟩) fun e => nomatch e
theorem slotsAt_len {σ : L2.St} : ∀ {sl : List (Option Nat)} {vs : List V}, slotsAt σ sl vs → vs.length = sl.length
  | [], [], _ => rfl
  | none :: sl, v :: vs, h => by simp [slotsAt_len (sl := sl) (vs := vs) h]
  | some s :: sl, v :: vs, h => by simp [slotsAt_len (sl := sl) (vs := vs) h.2]
theorem qx_call {x : Str} {p' : Pos} {k : Nat} {f : Addr} {fd : FuncData} {ps : List Str} {m : List DO → Rf} {n : Nat} (F : FnOk X.prog X.w X.K X.mg X.base CX0 k f fd ps (spD X.K cl n (lentIx sl 0) m)) (hr : Room k X.A) (hg : Gl X x) (hm : X.mg x = some (.ref f)) (hk : PySem.W.keepIn X.K (.ref f) = true) (hb : Binds X.K fd ps [])
    (ha : QM X cl C W (e :: es) sl fs) (hl : sl.length = n := by rfl) (hW : ∀ c d σ H, ¬ W c d σ H := by intro _ _ _ _ h; exact h) (hdb : (x == ("__debug__" : Str)) = false := by decide) (he : starEach (e :: es) X.env = (false, eval e X.env) :: starEach es X.env := by rfl) (hpl : (backTo pos (starEach es X.env)).any (·.1) = false := by rfl) :
    QX X cl C W false true (.Call (.Name x p') (e :: es) [] pos) (mCallF m sl fs) := by
  obtain ⟨t, pe, du⟩ := ha
  refine ⟨_, pe_call F hr hg hm hk hb .nil pass0 pe hdb he hpl, fun σ H Q ρ Hf fp G w => ?_⟩
  have := qm_call (x := x) (p' := p') (E := E0) du (fun vs h => (slotsAt_len h).trans hl) (fun c d H h => absurd h (hW c d σ H)) G w
  unfold tCall
  simpa using this
theorem qx_callX {x : Str} {p' : Pos} {k : Nat} {f : Addr} {fd : FuncData} {ps : List Str} {m : List DO → Rf} {n : Nat} (F : FnOk X.prog X.w X.K X.mg X.base (L2.CX X.prog X.w) k f fd ps (spD X.K cl n (lentIx sl 0) m)) (hr : Room k X.A) (hg : Gl X x) (hm : X.mg x = some (.ref f)) (hk : PySem.W.keepIn X.K (.ref f) = true) (hb : Binds X.K fd ps [])
    (tk : Takes X W) (ha : QM X cl C W (e :: es) sl fs) (hl : sl.length = n := by rfl) (hdb : (x == ("__debug__" : Str)) = false := by decide) (he : starEach (e :: es) X.env = (false, eval e X.env) :: starEach es X.env := by rfl) (hpl : (backTo pos (starEach es X.env)).any (·.1) = false := by rfl) :
    QX X cl C W false true (.Call (.Name x p') (e :: es) [] pos) (mCallF m sl fs) := by
  obtain ⟨t, pe, du⟩ := ha
  refine ⟨_, pe_callSD (E := fun σ c d H => W c d σ H) F hr hg hm hk hb .nil (fun σ => L2.passAt tk σ) pe hdb he hpl, fun σ H Q ρ Hf fp G w => ?_⟩
  have := qm_call (x := x) (p' := p') (E := fun c d H => W c d σ H) du (fun vs h => (slotsAt_len h).trans hl) (fun c d H h => h) G w
  unfold tCallSD
  simpa using this
end
end DL
/-! Methods of own classes, making an instance. -/
namespace L2
open PySem PySem.Spec PyProof.Rows
section
variable {X : Cx} {CX : CXT} {k : Nat} {f C : Addr} {fd : FuncData} {ps : List Str} {sp : Sp} {E : St → XK} {x m : Str} {p pos apos : Pos} {e o : Expr} {es : List Expr} {ta : TE} {t : TA}
def tMethZ (C : Addr) (m : Str) (sp : Sp) (E : L2.St → XK) (ta : TE) (t : TA) : TE := fun σ H Q => ta σ H fun x H1 => ∃ a dx fs, x = .ref a ∧ H1 a = some (.ins C dx fs) ∧ fs.lookup m = none ∧ t σ H1 fun vs H2 => sp (x :: vs) H2 Q (E σ)
theorem pe_methZ {pl : Sem Bool} (he : PE X o ta) (c : Cls X.K C) (hm : Meth X.K C m f)
    (F : FnOk X.prog X.w X.K X.mg X.base CX k f fd ps sp) (hr : Room k X.A) (hb : Binds X.K fd ps []) (hx : ∀ σ, PassesAt CX X σ (E σ)) (ha : PA X (e :: es) t)
    (hst : starEach (e :: es) X.env = (false, eval e X.env) :: starEach es X.env := by rfl) (hpl : (backTo pos (starEach es X.env)).any (·.1) = false := by rfl)
    (ht : eval (.Call (.Attribute o m apos) (e :: es) [] pos) X.env = (do
      let ov ← eval o X.env
      standAt apos.atName
      let (f, first) ← holding [ov] (getMethod ov m pl)
      callWith pos f first (backTo pos (starEach (e :: es) X.env)) (backToKw pos (keywordEach [] X.env))) := by rfl) :
    PE X (.Call (.Attribute o m apos) (e :: es) [] pos) (tMethZ C m sp E ta t) := by
  refine ⟨fun pins s σ H Q I h => ?_⟩
  refine PySem.W.methodCall_KW (pl := pl) (thn (he.run pins s σ H _ I h) fun u s1 ⟨x, H1, I1, rx, a, dx, fs, ex, ea, l, q⟩ => ?_) ht
  subst ex
  obtain rfl : u = Value.ref a := rx
  refine getmeth_ok I1 ea c hm l ?_
  refine PySem.W.callWith_K (first := [.ref a]) (h₀ := X.base) I1.ok.mod.kin hm.kp (thn (ha.run pos pins s1 σ H1 _ I1 q) fun us s2 ⟨vs, H2, I2, r, q2⟩ => ⟨I2.kIn, ?_⟩) hst hpl
  exact run_fnS (us := .ref a :: us) (vs := .ref a :: vs) F hr hb (hx σ) I2 (.cons rfl r) q2
theorem pe_methZ0 {pl : Sem Bool} (he : PE X o ta) (c : Cls X.K C) (hm : Meth X.K C m f)
    (F : FnOk X.prog X.w X.K X.mg X.base CX k f fd ps sp) (hr : Room k X.A) (hb : Binds X.K fd ps []) (hx : ∀ σ, PassesAt CX X σ (E σ))
    (ht : eval (.Call (.Attribute o m apos) [] [] pos) X.env = (do
      let ov ← eval o X.env
      standAt apos.atName
      let (f, first) ← holding [ov] (getMethod ov m pl)
      callWith pos f first (backTo pos (starEach [] X.env)) (backToKw pos (keywordEach [] X.env))) := by rfl) :
    PE X (.Call (.Attribute o m apos) [] [] pos) (tMethZ C m sp E ta tNil) := by
  refine ⟨fun pins s σ H Q I h => ?_⟩
  refine PySem.W.methodCall_KW (pl := pl) (thn (he.run pins s σ H _ I h) fun u s1 ⟨x, H1, I1, rx, a, dx, fs, ex, ea, l, q⟩ => ?_) ht
  subst ex
  obtain rfl : u = Value.ref a := rx
  refine getmeth_ok I1 ea c hm l ?_
  exact PySem.W.callWith_K0 (first := [.ref a]) I1.kIn hm.kp (run_fnS (us := [.ref a]) (vs := [.ref a]) F hr hb (hx σ) I1 (.cons rfl .nil) q)
def tMakeZ (C : Addr) (sp : Sp) (E : St → XK) (t : TA) : TE := fun σ H Q => t σ H fun vs H1 => ∀ x dx, H1 x = none → H1 dx = none → dx ≠ x →
  sp (.ref x :: vs) (upd (upd H1 dx (.own x)) x (.ins C dx [])) (fun v H2 => v = .non ∧ Q (.ref x) H2) (E σ)
theorem run_makeZ {pins : List (Addr × Obj)} {σ : St} {H : Hp} {s : Shared} {Q : VK} {us : List Value} {vs : List V} (M : Mk X.K C f) (F : FnOk X.prog X.w X.K X.mg X.base CX k f fd ps sp) (hr : Room (k + 1) X.A) (hb : Binds X.K fd ps [])
    (hx : ∀ σ, PassesAt CX X σ (E σ)) (I : Inv X pins σ H s) (r : Vals vs us)
    (h : ∀ x dx, H x = none → H dx = none → dx ≠ x → sp (.ref x :: vs) (upd (upd H dx (.own x)) x (.ins C dx [])) (fun v H2 => v = .non ∧ Q (.ref x) H2) (E σ)) :
    wpAny (model X.prog X.w) X.A (call (.ref C) us) (EP X pins σ Q) X.xe s := by
  have hq := h (s.heap.objs.size + 1) s.heap.objs.size (I.hok.fresh (Nat.le_succ _)) (I.hok.fresh (Nat.le_refl _)) (Nat.ne_of_lt (Nat.lt_succ_self _))
  have I2 := Inv.made (C := C) I
  have r2 : Vals (V.ref (s.heap.objs.size + 1) :: vs) (Value.ref (s.heap.objs.size + 1) :: us) := .cons rfl r
  have hl : (Value.ref (s.heap.objs.size + 1) :: us ++ []).length = ps.length := by
    have e := r2.length
    rw [F.len _ _ _ _ hq] at e
    rw [List.append_nil]
    exact e.symm
  have hb' := hb _ (Value.ref (s.heap.objs.size + 1) :: us) I2.kIn hl
  rw [List.append_nil] at hb'
  refine wpAny_call (make_map (f := f) I.kIn M.makes M.init (beq_iff_eq.mp M.fn) (codeAny_mono (F.run _ X.stack _ _ ⟨Value.ref (s.heap.objs.size + 1) :: us, []⟩ (Value.ref (s.heap.objs.size + 1) :: us) _ _ (E σ) (hr.make C us [])
    (I2.env0.make C us []) hb' r2 hq) fun r s' hq' => ?_))
  cases r with
  | error e => exact hx σ pins _ _ e s' I2 hq'
  | ok fl =>
    cases fl with
    | ret u =>
      obtain ⟨v, H', I3, rv, ev, q3⟩ := I2.after hq'
      subst ev
      exact ⟨rv, ⟨V.ref (s.heap.objs.size + 1), H', I3, rfl, q3⟩⟩
    | next => exact False.elim hq'
    | brk => exact False.elim hq'
    | cont => exact False.elim hq'
theorem pe_makeZ (M : Mk X.K C f) (F : FnOk X.prog X.w X.K X.mg X.base CX k f fd ps sp) (hr : Room (k + 1) X.A) (hg : Gl X x) (hm : X.mg x = some (.ref C)) (hb : Binds X.K fd ps []) (hx : ∀ σ, PassesAt CX X σ (E σ))
    (ha : PA X (e :: es) t) (hdb : (x == ("__debug__" : Str)) = false := by decide) (he : starEach (e :: es) X.env = (false, eval e X.env) :: starEach es X.env := by rfl) (hpl : (backTo pos (starEach es X.env)).any (·.1) = false := by rfl) :
    PE X (.Call (.Name x p) (e :: es) [] pos) (tMakeZ C sp E t) := by
  refine ⟨fun pins s σ H Q I h => ?_⟩
  refine wpAny_Call_Name_kw (ld_glob I hg hm ?_ hdb)
  refine PySem.W.callWith_K (h₀ := X.base) I.ok.mod.kin M.kp (thn (ha.run pos pins s σ H _ I h) fun us s1 ⟨vs, H1, I1, r, q⟩ => ⟨I1.kIn, ?_⟩) he hpl
  exact run_makeZ M F hr hb hx I1 r q
theorem pe_makeZ0 (M : Mk X.K C f) (F : FnOk X.prog X.w X.K X.mg X.base CX k f fd ps sp) (hr : Room (k + 1) X.A) (hg : Gl X x) (hm : X.mg x = some (.ref C)) (hb : Binds X.K fd ps []) (hx : ∀ σ, PassesAt CX X σ (E σ))
    (hdb : (x == ("__debug__" : Str)) = false := by decide) : PE X (.Call (.Name x p) [] [] pos) (tMakeZ C sp E tNil) := by
  refine ⟨fun pins s σ H Q I h => ?_⟩
  refine wpAny_Call_Name_kw (ld_glob I hg hm ?_ hdb)
  exact PySem.W.callWith_K0 I.kIn M.kp (run_makeZ (us := []) M F hr hb hx I .nil h)
end
end L2
namespace DL
open PySem PySem.Spec L2
section
variable {X : Cx} {cl : String → Addr} {C : Pc} {W : WX} {p p1 p2 o o1 o2 : Bool} {e a : Expr} {es : List Expr} {fe fa : M DO} {fs : M (List DO)} {pos : Pos} {sl : List (Option Nat)}
/-- f(e, ..) -/
theorem qx_fn {x : Str} {p' : Pos} {k : Nat} {f : Addr} {fd : FuncData} {ps : List Str} {m : List DO → Rf} {n : Nat} (F : FnOk X.prog X.w X.K X.mg X.base (L2.CX X.prog X.w) k f fd ps (spD X.K cl n (lentIx sl 0) m)) (hr : Room k X.A) (hg : Gl X x) (hm : X.mg x = some (.ref f)) (hk : PySem.W.keepIn X.K (.ref f) = true) (hb : Binds X.K fd ps [])
    (tk : Takes X W) (ha : QM X cl C W (e :: es) sl fs) (hl : sl.length = n := by rfl) (hdb : (x == ("__debug__" : Str)) = false := by decide) (he : starEach (e :: es) X.env = (false, eval e X.env) :: starEach es X.env := by rfl) (hpl : (backTo pos (starEach es X.env)).any (·.1) = false := by rfl) :
    QX X cl C W false true (.Call (.Name x p') (e :: es) [] pos) (mCallF m sl fs) := by
  obtain ⟨t, pe, du⟩ := ha
  refine ⟨_, pe_callSD (E := WE W) F hr hg hm hk hb .nil (fun σ => L2.passAt tk σ) pe hdb he hpl, fun σ H Q ρ Hf fp G w => ?_⟩
  have := qm_call (x := x) (p' := p') (E := WE W σ) du (fun vs h => (slotsAt_len h).trans hl) (fun c d H h => h) G w
  unfold tCallSD
  simpa using this
/-! o.m(e, ..): the receiver is an argument, too -/
def isOb (c m : String) (x : DO) : Bool := match x.1 with
  | .obj c' fds => decide (c' = c) && (fds.lookup m).isNone
  | _ => false
theorem isOb_at {K : PySem.W.Frag} {Hf H : Hp} {c m : String} {x : DO} {v : V} {f : Fp} (h : isOb c m x = true) (r : R1 K cl Hf H v x.1 x.2 f) (s : Same Hf H) : ∃ a dx fs, v = .ref a ∧ H a = some (.ins (cl c) dx fs) ∧ fs.lookup (Str.ofString m) = none := by
  unfold isOb at h
  split at h
  · rename_i c' fds e
    rw [e] at r
    rw [Bool.and_eq_true, decide_eq_true_eq] at h
    obtain ⟨rfl, h2⟩ := h
    obtain ⟨a, dx, fvs, os, g, rfl, ha, hk, rs, _⟩ := r.isObj s
    refine ⟨a, dx, fvs, rfl, ha, ?_⟩
    cases e2 : fds.lookup m with
    | none => exact (lookup_rel (k := m) (g := fun _ => .no) hk rs).1 e2
    | some d => rw [e2] at h2; cases h2
  · cases h
def isNo : Own → Bool
  | .no => true
  | _ => false
theorem isNo_eq {w : Own} (h : isNo w = true) : w = .no := by cases w <;> first | rfl | cases h
/-- the receiver is handed over frozen -/
def mMethF (c mn : String) (m : List DO → Rf) (sl : List (Option Nat)) (fo : M DO) (fs : M (List DO)) : M DO := M.bind fo fun x => if isNo x.2 = true then (if isOb c mn x = true then mCallF m (none :: sl) (M.bind fs fun xs => M.ret (x :: xs)) else M.stuck) else M.stuck
/-- the receiver at slot i is lent -/
def mMethL (c mn : String) (m : List DO → Rf) (sl : List (Option Nat)) (i : Nat) (fs : M (List DO)) : M DO := M.bind (mName i) fun x => if isOb c mn x = true then mCallF m (some i :: sl) (M.bind fs fun xs => M.ret ((.hole, .no) :: xs)) else M.stuck
theorem methF_den {c mn : String} {ta : TE} {t : TA} {m : List DO → Rf} {n : Nat} (dn : Den X.K cl C W p o ta fa)
    (du : ∀ σ H Q ρ Hf fp, Good X.K cl C Hf H σ ρ fp → Wz X.K cl C W σ Hf H fp (fs ρ) (fun xs ρ' => ∀ vs Hf' H' fp' fd, Good X.K cl C Hf' H' σ ρ' fp' → Rs X.K cl Hf' H' vs (xs.map (·.1)) (xs.map (·.2)) fd → slotsAt σ sl vs → Fr Hf H fp Hf' H' fp' → (∀ b, fd b + fp' b ≤ 1) → (∀ b, fd b ≠ 0 → fp b ≠ 0 ∨ H b = none) → Q vs H') → t σ H Q)
    (hl : sl.length + 1 = n) : Den X.K cl C W false true (tMethZ (cl c) (Str.ofString mn) (spD X.K cl n (lentIx (none :: sl) 0) m) (WE W) ta t) (mMethF c mn m sl fa fs) := by
  intro σ H Q ρ Hf fp G w
  refine dn.bind G w fun x ρ1 v Hf1 H1 fp1 fd G1 r1 F1 c1 q1 w1 => ?_
  split at w1
  · rename_i ex
    have ex := isNo_eq ex
    split at w1
    · rename_i ho
      obtain ⟨a, dx, fvs, ev, ha, hn⟩ := isOb_at ho r1 G1.sub
      refine ⟨a, dx, fvs, ev, ha, hn, ?_⟩
      have r0 := r1
      rw [ex] at r0
      have z := r0.zero_of_no
      refine du σ H1 _ ρ1 Hf1 fp1 G1 ?_
      unfold mCallF M.bind at w1
      dsimp only at w1
      cases e : fs ρ1 with
      | stuck => rw [e] at w1; exact w1
      | err c fs ρ2 => rw [e] at w1; exact w1
      | ok xs ρ2 =>
        rw [e] at w1
        intro vs Hf2 H2 fp2 fe G2 r2 s2 F2 d2 n2
        have rx : R1 X.K cl Hf2 H2 v x.1 x.2 fd := r1.past F2 (.inl fun b => by rw [z]; have := G1.nd b; omega)
        have F2' : Fr Hf1 H1 fp1 Hf2 H2 (fun b => (fd b + fe b) + fp2 b) := F2.more fun b hb => by
          have hb : fd b + fe b + fp2 b ≠ 0 := hb
          rw [z] at hb
          by_cases z2 : fe b = 0
          · exact F2.new b (by omega)
          · exact n2 b z2
        refine call_den (sl := none :: sl) (xs := x :: xs) (fd := fun b => fd b + fe b) (Hf0 := Hf1) (H0 := H1) (fp0 := fp1) (P := POk X.K cl C false true σ Hf H fp Q) (by simp [slotsAt_len s2, hl]) G2 (.cons rx r2 fun b => rfl) s2 (fun b => by have := d2 b; have := z b; show fd b + fe b + fp2 b ≤ 1; omega) (fun c d H h => h) F2' w1
          fun y ρ' v' Hf' H' fp' fe' hP G' r' F' d' n' => hP v' Hf' H' fp' fe' G' r' (F1.trans (F2'.trans F')) (fun _ => ⟨d', fun b hb => by
            rcases n' b hb with q | q
            · rcases F2'.new b q with q2 | q2
              · exact F1.new b q2
              · exact .inr (F1.there b q2)
            · exact .inr (F1.there b (F2'.there b q))⟩) fun e => nomatch e
    · exact False.elim w1
  · exact False.elim w1
theorem methL_den {c mn : String} {t : TA} {m : List DO → Rf} {n i : Nat}
    (du : ∀ σ H Q ρ Hf fp, Good X.K cl C Hf H σ ρ fp → Wz X.K cl C W σ Hf H fp (fs ρ) (fun xs ρ' => ∀ vs Hf' H' fp' fd, Good X.K cl C Hf' H' σ ρ' fp' → Rs X.K cl Hf' H' vs (xs.map (·.1)) (xs.map (·.2)) fd → slotsAt σ sl vs → Fr Hf H fp Hf' H' fp' → (∀ b, fd b + fp' b ≤ 1) → (∀ b, fd b ≠ 0 → fp b ≠ 0 ∨ H b = none) → Q vs H') → t σ H Q)
    (hl : sl.length + 1 = n) : Den X.K cl C W false true (tMethZ (cl c) (Str.ofString mn) (spD X.K cl n (lentIx (some i :: sl) 0) m) (WE W) (tVar i) t) (mMethL c mn m sl i fs) := by
  intro σ H Q ρ Hf fp G w
  unfold mMethL M.bind mName at w
  cases e0 : ρ[i]? with
  | none => rw [e0] at w; exact False.elim w
  | some y =>
    cases y with
    | none => rw [e0] at w; exact False.elim w
    | some y =>
      rw [e0] at w
      dsimp only at w
      split at w
      · rename_i ho
        obtain ⟨v, g, k, h1, h2, h3, h4⟩ := G.env.at (d := y.1) (o := y.2) e0
        obtain ⟨a, dx, fvs, ev, ha, hn⟩ := isOb_at ho h2 G.sub
        refine ⟨v, h1, a, dx, fvs, ev, ha, hn, ?_⟩
        refine du σ H _ ρ Hf fp G ?_
        unfold mCallF M.bind at w
        dsimp only at w
        cases e : fs ρ with
        | stuck => rw [e] at w; exact w
        | err c fs ρ2 => rw [e] at w; exact w
        | ok xs ρ2 =>
          rw [e] at w
          intro vs Hf2 H2 fp2 fe G2 r2 s2 F2 d2 n2
          have F2' : Fr Hf H fp Hf2 H2 (fun b => fe b + fp2 b) := F2.more fun b hb => by
            by_cases z2 : fe b = 0
            · exact F2.new b (by have hb : fe b + fp2 b ≠ 0 := hb; omega)
            · exact n2 b z2
          exact call_den (sl := some i :: sl) (xs := (.hole, .no) :: xs) (fd := fe) (Hf0 := Hf) (H0 := H) (fp0 := fp) (P := POk X.K cl C false true σ Hf H fp Q) (by simp [slotsAt_len s2, hl]) G2 (.cons (.hole (f := Fp.z) v fun _ => rfl) r2 fun b => by simp [Fp.z]) ⟨h1, s2⟩ d2 (fun c d H h => h) F2' w
            fun y ρ' v' Hf' H' fp' fe' hP G' r' F' d' n' => hP v' Hf' H' fp' fe' G' r' (F2'.trans F') (fun _ => ⟨d', fun b hb => by
              rcases n' b hb with q | q
              · exact F2'.new b q
              · exact .inr (F2'.there b q)⟩) fun e => nomatch e
      · exact False.elim w
theorem qx_methF {c mn : String} {k : Nat} {f : Addr} {fd : FuncData} {ps : List Str} {m : List DO → Rf} {n : Nat} {apos : Pos} {pl : Sem Bool} (cc : Cls X.K (cl c)) (hm : Meth X.K (cl c) (Str.ofString mn) f) (F : FnOk X.prog X.w X.K X.mg X.base (L2.CX X.prog X.w) k f fd ps (spD X.K cl n (lentIx (none :: sl) 0) m)) (hr : Room k X.A) (hb : Binds X.K fd ps []) (tk : Takes X W)
    (ho : QX X cl C W p o a fa) (ha : QM X cl C W (e :: es) sl fs) (hl : sl.length + 1 = n := by rfl) (hst : starEach (e :: es) X.env = (false, eval e X.env) :: starEach es X.env := by rfl) (hpl : (backTo pos (starEach es X.env)).any (·.1) = false := by rfl)
    (ht : eval (.Call (.Attribute a (Str.ofString mn) apos) (e :: es) [] pos) X.env = (do
      let ov ← eval a X.env
      standAt apos.atName
      let (f, first) ← holding [ov] (getMethod ov (Str.ofString mn) pl)
      callWith pos f first (backTo pos (starEach (e :: es) X.env)) (backToKw pos (keywordEach [] X.env))) := by rfl) :
    QX X cl C W false true (.Call (.Attribute a (Str.ofString mn) apos) (e :: es) [] pos) (mMethF c mn m sl fa fs) := by
  obtain ⟨ta, pa, da⟩ := ho
  obtain ⟨t, pe, du⟩ := ha
  exact ⟨_, pe_methZ (pl := pl) pa cc hm F hr hb (fun σ => L2.passAt tk σ) pe hst hpl ht, methF_den da du hl⟩
theorem qx_methF0 {c mn : String} {k : Nat} {f : Addr} {fd : FuncData} {ps : List Str} {m : List DO → Rf} {apos : Pos} {pl : Sem Bool} (cc : Cls X.K (cl c)) (hm : Meth X.K (cl c) (Str.ofString mn) f) (F : FnOk X.prog X.w X.K X.mg X.base (L2.CX X.prog X.w) k f fd ps (spD X.K cl 1 (lentIx [none] 0) m)) (hr : Room k X.A) (hb : Binds X.K fd ps []) (tk : Takes X W)
    (ho : QX X cl C W p o a fa)
    (ht : eval (.Call (.Attribute a (Str.ofString mn) apos) [] [] pos) X.env = (do
      let ov ← eval a X.env
      standAt apos.atName
      let (f, first) ← holding [ov] (getMethod ov (Str.ofString mn) pl)
      callWith pos f first (backTo pos (starEach [] X.env)) (backToKw pos (keywordEach [] X.env))) := by rfl) :
    QX X cl C W false true (.Call (.Attribute a (Str.ofString mn) apos) [] [] pos) (mMethF c mn m [] fa mNil) := by
  obtain ⟨ta, pa, da⟩ := ho
  obtain ⟨t, pe, du⟩ := qm_nil (X := X) (cl := cl) (C := C) (W := W)
  refine ⟨_, pe_methZ0 (pl := pl) pa cc hm F hr hb (fun σ => L2.passAt tk σ) ht, methF_den (t := tNil) da (fun σ H Q ρ Hf fp G w => ?_) rfl⟩
  exact w [] Hf H fp Fp.z G (.nil fun _ => rfl) trivial Fr.refl (fun b => by have := G.nd b; simp [Fp.z]; omega) fun b hb => absurd rfl hb
theorem qx_methL (i : Nat) {c mn : String} {k : Nat} {f : Addr} {fd : FuncData} {ps : List Str} {m : List DO → Rf} {n : Nat} {apos pn : Pos} {x : Str} {pl : Sem Bool} (cc : Cls X.K (cl c)) (hm : Meth X.K (cl c) (Str.ofString mn) f) (F : FnOk X.prog X.w X.K X.mg X.base (L2.CX X.prog X.w) k f fd ps (spD X.K cl n (lentIx (some i :: sl) 0) m)) (hr : Room k X.A) (hb : Binds X.K fd ps []) (tk : Takes X W)
    (ha : QM X cl C W (e :: es) sl fs) (hN : X.N[i]? = some x := by rfl) (hv : Vis X.env.scope x := by first | exact Or.inl rfl | exact Or.inr (Or.inl rfl) | exact Or.inr (Or.inr rfl)) (hd : (x == ("__debug__" : Str)) = false := by decide)
    (hcd : (x == ("__classdict__" : Str)) = false := by decide) (hl : sl.length + 1 = n := by rfl) (hst : starEach (e :: es) X.env = (false, eval e X.env) :: starEach es X.env := by rfl) (hpl : (backTo pos (starEach es X.env)).any (·.1) = false := by rfl)
    (ht : eval (.Call (.Attribute (.Name x pn) (Str.ofString mn) apos) (e :: es) [] pos) X.env = (do
      let ov ← eval (.Name x pn) X.env
      standAt apos.atName
      let (f, first) ← holding [ov] (getMethod ov (Str.ofString mn) pl)
      callWith pos f first (backTo pos (starEach (e :: es) X.env)) (backToKw pos (keywordEach [] X.env))) := by rfl) :
    QX X cl C W false true (.Call (.Attribute (.Name x pn) (Str.ofString mn) apos) (e :: es) [] pos) (mMethL c mn m sl i fs) := by
  obtain ⟨t, pe, du⟩ := ha
  exact ⟨_, pe_methZ (pl := pl) (pe_var (i := i) hN hv hd hcd) cc hm F hr hb (fun σ => L2.passAt tk σ) pe hst hpl ht, methL_den du hl⟩
theorem qx_methL0 (i : Nat) {c mn : String} {k : Nat} {f : Addr} {fd : FuncData} {ps : List Str} {m : List DO → Rf} {apos pn : Pos} {x : Str} {pl : Sem Bool} (cc : Cls X.K (cl c)) (hm : Meth X.K (cl c) (Str.ofString mn) f) (F : FnOk X.prog X.w X.K X.mg X.base (L2.CX X.prog X.w) k f fd ps (spD X.K cl 1 (lentIx [some i] 0) m)) (hr : Room k X.A) (hb : Binds X.K fd ps []) (tk : Takes X W)
    (hN : X.N[i]? = some x := by rfl) (hv : Vis X.env.scope x := by first | exact Or.inl rfl | exact Or.inr (Or.inl rfl) | exact Or.inr (Or.inr rfl)) (hd : (x == ("__debug__" : Str)) = false := by decide)
    (hcd : (x == ("__classdict__" : Str)) = false := by decide)
    (ht : eval (.Call (.Attribute (.Name x pn) (Str.ofString mn) apos) [] [] pos) X.env = (do
      let ov ← eval (.Name x pn) X.env
      standAt apos.atName
      let (f, first) ← holding [ov] (getMethod ov (Str.ofString mn) pl)
      callWith pos f first (backTo pos (starEach [] X.env)) (backToKw pos (keywordEach [] X.env))) := by rfl) :
    QX X cl C W false true (.Call (.Attribute (.Name x pn) (Str.ofString mn) apos) [] [] pos) (mMethL c mn m [] i mNil) := by
  refine ⟨_, pe_methZ0 (pl := pl) (pe_var (i := i) hN hv hd hcd) cc hm F hr hb (fun σ => L2.passAt tk σ) ht, methL_den (t := tNil) (fun σ H Q ρ Hf fp G w => ?_) rfl⟩
  exact w [] Hf H fp Fp.z G (.nil fun _ => rfl) trivial Fr.refl (fun b => by have := G.nd b; simp [Fp.z]; omega) fun b hb => absurd rfl hb
/-! C(e, ..) -/
def mMake (c : String) (m : List DO → Rf) (sl : List (Option Nat)) (fs : M (List DO)) : M DO := M.bind fs fun xs ρ => match takeArgs sl xs ρ with
  | none => .stuck
  | some (ds, ρ') => match m ((.obj c [], .obj []) :: ds) with
    | .ok (.non, _) (self :: ms) => .ok self (putMuts sl ms ρ')
    | .err c fs (_ :: ms) => .err c fs (putMuts sl ms ρ')
    | _ => .stuck
theorem lentIx_shift : ∀ (sl : List (Option Nat)) (k : Nat), lentIx sl (k + 1) = (lentIx sl k).map (· + 1)
  | [], k => rfl
  | none :: sl, k => lentIx_shift sl (k + 1)
  | some s :: sl, k => by simp only [lentIx, List.map_cons, lentIx_shift sl (k + 1)]
theorem make_den {c : String} {σ : L2.St} {H Hf H0 Hf0 : Hp} {ρ : Env} {fp fp0 fd : Fp} {Q : VK} {E : XK} {m : List DO → Rf} {xs : List DO} {vs : List V} {n : Nat} {K : PySem.W.Frag} (hn : vs.length + 1 = n) (G : Good K cl C Hf H σ ρ fp) (r : Rs K cl Hf H vs (xs.map (·.1)) (xs.map (·.2)) fd) (sa : slotsAt σ sl vs) (d : ∀ b, fd b + fp b ≤ 1)
    (hE : ∀ c d H, W c d σ H → E c d H) {P : DO → Env → Prop} (F0 : Fr Hf0 H0 fp0 Hf H (fun b => fd b + fp b))
    (w : Wz K cl C W σ Hf0 H0 fp0 ((fun ρ => match takeArgs sl xs ρ with
      | none => Rz.stuck
      | some (ds, ρ') => match m ((.obj c [], .obj []) :: ds) with
        | .ok (.non, _) (self :: ms) => .ok self (putMuts sl ms ρ')
        | .err c fs (_ :: ms) => .err c fs (putMuts sl ms ρ')
        | _ => .stuck) ρ) P)
    (fin : ∀ x ρ' v Hf' H' fp' fe, P x ρ' → Good K cl C Hf' H' σ ρ' fp' → R1 K cl Hf' H' v x.1 x.2 fe → Fr Hf H (fun b => fd b + fp b) Hf' H' fp' → (∀ b, fe b + fp' b ≤ 1) → (∀ b, fe b ≠ 0 → fd b + fp b ≠ 0 ∨ H b = none) → Q v H')
    (x dx : Addr) (hx : H x = none) (hdx : H dx = none) (hne : dx ≠ x) : spD K cl n (0 :: lentIx sl 1) m (.ref x :: vs) (upd (upd H dx (.own x)) x (.ins (cl c) dx [])) (fun v H2 => v = .non ∧ Q (.ref x) H2) E := by
  refine ⟨by simpa using hn, ?_⟩
  have G1 := G.alloc hdx (.own x)
  have hx1 : (upd H dx (.own x)) x = none := by rw [upd_ne hne.symm]; exact hx
  have G2 := G1.alloc hx1 (.ins (cl c) dx [])
  have live := fun b hb => (r.live b hb).1
  have fd0 : ∀ b, H b = none → fd b = 0 := fun b hb => by
    by_cases z : fd b = 0
    · exact z
    · obtain ⟨⟨o, ho⟩, _⟩ := r.live b z; rw [hb] at ho; cases ho
  have fp0' : ∀ b, H b = none → fp b = 0 := fun b hb => by
    by_cases z : fp b = 0
    · exact z
    · obtain ⟨⟨o, ho⟩, _⟩ := G.live b z; rw [hb] at ho; cases ho
  have r2 : Rs K cl Hf (upd (upd H dx (.own x)) x (.ins (cl c) dx [])) vs (xs.map (·.1)) (xs.map (·.2)) fd := r.to (Same.refl _) fun b hb => by
    obtain ⟨⟨o, ho⟩, hn⟩ := r.live b hb
    exact ⟨by rw [upd_ne (ne_of_none ho hx), upd_ne (ne_of_none ho hdx)], hn⟩
  have FA : Fr Hf H (fun b => fd b + fp b) Hf (upd (upd H dx (.own x)) x (.ins (cl c) dx [])) (fun b => fd b + fp b) := (Fr.alloc hdx _).trans (Fr.alloc hx1 _)
  dsimp only at w
  cases e : takeArgs sl xs ρ with
  | none => rw [e] at w; exact False.elim w
  | some y =>
    obtain ⟨ds, ρ'⟩ := y
    rw [e] at w
    dsimp only at w
    obtain ⟨f, k, h1, h2, h3, h4, h5, h6, h7⟩ := take_ok e sa r2 G2.env d
    have hp : pick (0 :: lentIx sl 1) (.ref x :: vs) = .ref x :: lentV sl vs := by
      have := pick_lent sl vs [V.ref x] h6
      simp only [List.length_singleton, List.singleton_append] at this
      unfold pick at this ⊢
      rw [List.map_cons, this]; rfl
    have hself : R1 K cl Hf (upd (upd H dx (.own x)) x (.ins (cl c) dx [])) (.ref x) (.obj c []) (.obj []) (fun b => (if b = x then 1 else 0) + Fp.z b) :=
      .objO upd_same (G.sub.free hx) rfl (.nil (f := Fp.z) fun _ => rfl) rfl fun b => rfl
    have fx : f x = 0 := by have := h4 x; rw [fd0 x hx, fp0' x hx] at this; omega
    have kx : k x = 0 := by have := h5 x; rw [fp0' x hx] at this; omega
    refine ⟨Hf, (.obj c [], .obj []) :: ds, fun b => ((if b = x then 1 else 0) + Fp.z b) + f b, G2.sub, .cons hself h1 fun b => rfl, fun b => ?_, fun i y hi hm => ?_, ?_⟩
    · by_cases z : b = x
      · subst z; simp [Fp.z, fx]
      · simp only [if_neg z, Fp.z]; have := h3 b; omega
    · cases i with
      | zero => exact absurd (List.mem_cons_self ..) hm
      | succ i =>
        refine take_lent 0 e i y (by simpa using hi) fun hh => hm (List.mem_cons_of_mem _ ?_)
        rw [lentIx_shift]
        exact List.mem_map.mpr ⟨i, by simpa using hh, rfl⟩
    have dk0 : ∀ b, (((if b = x then 1 else 0) + Fp.z b) + f b) + k b ≤ 1 := fun b => by
      by_cases z : b = x
      · subst z; simp [Fp.z, fx, kx]
      · simp only [if_neg z, Fp.z]; have := h3 b; omega
    have back : ∀ {ms : List DO} {Hf' H' : Hp} {fm fe : Fp}, Same Hf' H' → Rs K cl Hf' H' (lentV sl vs) (ms.map (·.1)) (ms.map (·.2)) fm → (∀ b, fe b + fm b ≤ 1) → Fr Hf (upd (upd H dx (.own x)) x (.ins (cl c) dx [])) (fun b => ((if b = x then 1 else 0) + Fp.z b) + f b) Hf' H' (fun b => fe b + fm b) →
        ∃ k', Good K cl C Hf' H' σ (putMuts sl ms ρ') k' ∧ Fr Hf H (fun b => fd b + fp b) Hf' H' k' ∧ (∀ b, fe b + k' b ≤ 1) ∧ (∀ b, fe b ≠ 0 → fd b + fp b ≠ 0 ∨ H b = none) := by
      intro ms Hf' H' fm fe ss rr dd F
      have ek := Same.frzfree h2 F dk0
      have dk : ∀ b, (fe b + fm b) + k b ≤ 1 := fun b => by
        by_cases z : k b = 0
        · have := dd b; omega
        · by_cases z2 : fe b + fm b = 0
          · have := h3 b; omega
          · rcases F.new b z2 with q | q
            · have := dk0 b; omega
            · obtain ⟨⟨o, ho⟩, _⟩ := h2.live b z; rw [q] at ho; cases ho
      have cl1 : ∀ b, ((if b = x then 1 else 0) + Fp.z b) + f b ≠ 0 → fd b + fp b ≠ 0 ∨ H b = none := fun b hb => by
        by_cases z : b = x
        · subst z; exact .inr hx
        · simp only [if_neg z, Fp.z] at hb; have := h4 b; exact .inl (by omega)
      have cl2 : ∀ b, (upd (upd H dx (.own x)) x (.ins (cl c) dx [])) b = none → H b = none := fun b h => FA.there b h
      obtain ⟨k', e1, e2⟩ := put_ok sa rr ek fun b => by have := dk b; omega
      refine ⟨k', ⟨ss, e1, fun b => by have := e2 b; have := dk b; omega, G.pin, C.mono F.sub G.fac⟩, ⟨F.sub, fun b o h z => F.keep b o (FA.keep b o h z) ?_, fun b h => cl2 b (F.there b h), fun b hb => ?_, fun b hb => ?_⟩, fun b => by have := e2 b; have := dk b; omega, fun b hb => ?_⟩
      · have z : fd b + fp b = 0 := z
        have hbx : b ≠ x := ne_of_none h hx
        have := h4 b
        show ((if b = x then 1 else 0) + Fp.z b) + f b = 0
        simp only [if_neg hbx, Fp.z]; omega
      · by_cases z : fe b + fm b = 0
        · have : k b ≠ 0 := fun z2 => hb (by have := e2 b; omega)
          exact .inl (by have := h5 b; show fd b + fp b ≠ 0; omega)
        · rcases F.new b z with q | q
          · exact cl1 b q
          · exact .inr (cl2 b q)
      · rcases F.newf b hb with q | q | q
        · exact .inl q
        · exact .inr (cl1 b q)
        · exact .inr (.inr (cl2 b q))
      · rcases F.new b (by show fe b + fm b ≠ 0; omega) with q | q
        · exact cl1 b q
        · exact .inr (cl2 b q)
    cases em : m ((.obj c [], .obj []) :: ds) with
    | stuck => rw [em] at w; exact w
    | ok y ms =>
      rw [em] at w
      obtain ⟨yd, yo⟩ := y
      intro v Hf' H' fe fm ss rv rr dd F
      rw [hp] at rr
      cases yd with
      | non =>
        cases ms with
        | nil => exact False.elim w
        | cons self ms =>
          dsimp only at w
          cases rr with
          | @cons fs' gs' _ _ _ _ _ _ _ rs1 rs2 hfs =>
            obtain ⟨rfl, _⟩ := rv.isNon
            have fe0 : ∀ b, fe b = 0 := by
              have := rv.isNon.2
              have this : yo = .no := this
              subst this
              exact rv.zero_of_no
            obtain ⟨k', Gk, Fk, dk, nk⟩ := back (fe := fs') (fm := gs') ss rs2 (fun b => by have := dd b; rw [fe0, hfs] at this; omega) (by
              have e3 : (fun b => fe b + fm b) = fun b => fs' b + gs' b := funext fun b => by rw [fe0, hfs]; omega
              rw [e3] at F; exact F)
            exact ⟨rfl, fin self _ (.ref x) Hf' H' k' fs' w Gk rs1 Fk dk nk⟩
      | _ => exact False.elim w
    | err c' fs ms =>
      rw [em] at w
      intro Hf' H' fm dx' fvs os g ss rr dd F hx' hx'' hk hr ho
      rw [hp] at rr
      cases ms with
      | nil => exact False.elim w
      | cons self ms =>
        cases rr with
        | @cons fs' gs' _ _ _ _ _ _ _ rs1 rs2 hfs =>
          obtain ⟨k', Gk, Fk, dk, nk⟩ := back (fe := fs') (fm := gs') ss rs2 (fun b => by have := dd b; rw [hfs] at this; omega) (by
            have e3 : fm = fun b => fs' b + gs' b := funext fun b => hfs b
            rw [e3] at F; exact F)
          exact hE _ _ _ (w Hf' H' k' dx' fvs os g Gk (F0.trans Fk) hx' hx'' hk hr ho)
theorem qx_make {c : String} {x : Str} {p' : Pos} {k : Nat} {f : Addr} {fd : FuncData} {ps : List Str} {m : List DO → Rf} {n : Nat} (hMk : Mk X.K (cl c) f) (F : FnOk X.prog X.w X.K X.mg X.base (L2.CX X.prog X.w) k f fd ps (spD X.K cl n (0 :: lentIx sl 1) m)) (hr : Room (k + 1) X.A) (hg : Gl X x) (hm : X.mg x = some (.ref (cl c))) (hb : Binds X.K fd ps []) (tk : Takes X W)
    (ha : QM X cl C W (e :: es) sl fs) (hl : sl.length + 1 = n := by rfl) (hdb : (x == ("__debug__" : Str)) = false := by decide) (he : starEach (e :: es) X.env = (false, eval e X.env) :: starEach es X.env := by rfl) (hpl : (backTo pos (starEach es X.env)).any (·.1) = false := by rfl) :
    QX X cl C W false true (.Call (.Name x p') (e :: es) [] pos) (mMake c m sl fs) := by
  obtain ⟨t, pe, du⟩ := ha
  refine ⟨_, pe_makeZ hMk F hr hg hm hb (fun σ => L2.passAt tk σ) pe hdb he hpl, fun σ H Q ρ Hf fp G w => ?_⟩
  refine du σ H _ ρ Hf fp G ?_
  unfold mMake M.bind at w
  cases e : fs ρ with
  | stuck => rw [e] at w; exact w
  | err c fs ρ2 => rw [e] at w; exact w
  | ok xs ρ1 =>
    rw [e] at w
    intro vs Hf1 H1 fp1 fd G1 r1 s1 F1 d1 n1 x dx hx hdx hne
    have F1' : Fr Hf H fp Hf1 H1 (fun b => fd b + fp1 b) := F1.more fun b hb => by
      by_cases z : fd b = 0
      · exact F1.new b (by have hb : fd b + fp1 b ≠ 0 := hb; omega)
      · exact n1 b z
    exact make_den (W := W) (C := C) (m := m) (c := c) (sl := sl) (xs := xs) (ρ := ρ1) (P := POk X.K cl C false true σ Hf H fp Q) (E := WE W σ) (by rw [slotsAt_len s1]; exact hl) G1 r1 s1 d1 (fun c d H h => h) F1' w (fun y ρ' v Hf' H' fp' fe hP G' r' F' d' n' => hP v Hf' H' fp' fe G' r' (F1'.trans F') (fun _ => ⟨d', fun b hb => by
      rcases n' b hb with q | q
      · exact F1'.new b q
      · exact .inr (F1'.there b q)⟩) fun e => nomatch e) x dx hx hdx hne
end
end DL
/-! Statements, bodies, defs. -/
namespace DL
open PySem PySem.Spec L2
inductive Fl where
  | nx | rt (x : DO) | bk | ct
section
variable (K : PySem.W.Frag) (cl : String → Addr) (C : Pc) (W : WX)
def WzS (Hf H : Hp) (fp : Fp) (r : Rz Fl) (P : Fl → Env → Prop) : Prop := match r with
  | .stuck => False
  | .ok a ρ' => P a ρ'
  | .err c fs ρ' => ∀ σ', WzE K cl C W σ' Hf H fp c fs ρ'
def PSk (Hf H : Hp) (fp : Fp) (D : Ends) (a : Fl) (ρ' : Env) : Prop := match a with
  | .nx => ∀ σ' Hf' H' fp', Good K cl C Hf' H' σ' ρ' fp' → Fr Hf H fp Hf' H' fp' → D.nx σ' H'
  | .bk => ∀ σ' Hf' H' fp', Good K cl C Hf' H' σ' ρ' fp' → Fr Hf H fp Hf' H' fp' → D.bk σ' H'
  | .ct => ∀ σ' Hf' H' fp', Good K cl C Hf' H' σ' ρ' fp' → Fr Hf H fp Hf' H' fp' → D.ct σ' H'
  | .rt x => ∀ σ' v Hf' H' fp' fd, Good K cl C Hf' H' σ' ρ' fp' → R1 K cl Hf' H' v x.1 x.2 fd → Fr Hf H fp Hf' H' fp' → (∀ b, fd b + fp' b ≤ 1) → (∀ b, fd b ≠ 0 → fp b ≠ 0 ∨ H b = none) → D.rt v H'
def DenS (t : TS) (g : M Fl) : Prop := ∀ σ H D ρ Hf fp, Good K cl C Hf H σ ρ fp → WzS K cl C W Hf H fp (g ρ) (PSk K cl C Hf H fp D) → t D σ H
end
structure QS (X : Cx) (cl : String → Addr) (C : Pc) (W : WX) (st : Stmt) (g : M Fl) : Prop where
  ex : ∃ t, PS X st t ∧ DenS X.K cl C W t g
structure QSs (X : Cx) (cl : String → Addr) (C : Pc) (W : WX) (st : List Stmt) (g : M Fl) : Prop where
  ex : ∃ t, PSs X st t ∧ DenS X.K cl C W t g
section
variable {K : PySem.W.Frag} {cl : String → Addr} {C : Pc} {W : WX} {Hf H Hf1 H1 Hf2 H2 : Hp} {σ : L2.St} {ρ : Env} {fp fp1 fp2 f : Fp}
theorem PSk.past {D : Ends} {a : Fl} {ρ' : Env} (h : PSk K cl C Hf H fp D a ρ') (F : Fr Hf H fp Hf1 H1 fp1) : PSk K cl C Hf1 H1 fp1 D a ρ' := by
  cases a with
  | nx => exact fun σ' Hf' H' fp' g f => h σ' Hf' H' fp' g (F.trans f)
  | bk => exact fun σ' Hf' H' fp' g f => h σ' Hf' H' fp' g (F.trans f)
  | ct => exact fun σ' Hf' H' fp' g f => h σ' Hf' H' fp' g (F.trans f)
  | rt x => exact fun σ' v Hf' H' fp' fd g r f d n => h σ' v Hf' H' fp' fd g r (F.trans f) d fun b hb => (n b hb).elim (fun q => F.new b q) fun q => .inr (F.there b q)
theorem WzS.past {r : Rz Fl} {P P' : Fl → Env → Prop} (h : WzS K cl C W Hf H fp r P) (F : Fr Hf H fp Hf1 H1 fp1) (i : ∀ a ρ', r = .ok a ρ' → P a ρ' → P' a ρ') : WzS K cl C W Hf1 H1 fp1 r P' := by
  cases r with
  | stuck => exact h
  | ok a ρ' => exact i a ρ' rfl h
  | err c fs ρ' => exact fun σ' => WzE.past (h σ') F
theorem WzS.go {r : Rz Fl} {D : Ends} (h : WzS K cl C W Hf H fp r (PSk K cl C Hf H fp D)) (F : Fr Hf H fp Hf1 H1 fp1) : WzS K cl C W Hf1 H1 fp1 r (PSk K cl C Hf1 H1 fp1 D) := h.past F fun a ρ' _ q => q.past F
/-- an expression ahead of a statement's end -/
def mAfter (f : M DO) (k : DO → M Fl) : M Fl := M.bind f k
theorem Den.after {p own : Bool} {t : TE} {fe : M DO} {k : DO → M Fl} {P : Fl → Env → Prop} {T : VK} (ha : Den K cl C W p own t fe) (G : Good K cl C Hf H σ ρ fp) (h : WzS K cl C W Hf H fp (M.bind fe k ρ) P)
    (cont : ∀ x ρ1 v Hf1 H1 fp1 fd, Good K cl C Hf1 H1 σ ρ1 fp1 → R1 K cl Hf1 H1 v x.1 x.2 fd → Fr Hf H fp Hf1 H1 fp1 → (own = true → (∀ b, fd b + fp1 b ≤ 1) ∧ ∀ b, fd b ≠ 0 → fp b ≠ 0 ∨ H b = none) →
      WzS K cl C W Hf H fp (k x ρ1) P → T v H1) : t σ H T := by
  refine ha σ H T ρ Hf fp G ?_
  unfold M.bind at h
  cases e : fe ρ with
  | stuck => rw [e] at h; exact h
  | ok x ρ1 =>
    rw [e] at h
    exact fun v Hf1 H1 fp1 fd G1 r1 F1 o1 p1 => cont x ρ1 v Hf1 H1 fp1 fd G1 r1 F1 o1 h
  | err c fs ρ1 => rw [e] at h; exact h σ
theorem DenT.after {p : Bool} {t : TT} {fe : M Bool} {k : Bool → M Fl} {P : Fl → Env → Prop} {T : Bool → Hp → Prop} (ha : DenT K cl C W p t fe) (G : Good K cl C Hf H σ ρ fp) (h : WzS K cl C W Hf H fp (M.bind fe k ρ) P)
    (cont : ∀ x ρ1 Hf1 H1 fp1, Good K cl C Hf1 H1 σ ρ1 fp1 → Fr Hf H fp Hf1 H1 fp1 → WzS K cl C W Hf H fp (k x ρ1) P → T x H1) : t σ H T := by
  refine ha σ H T ρ Hf fp G ?_
  unfold M.bind at h
  cases e : fe ρ with
  | stuck => rw [e] at h; exact h
  | ok x ρ1 =>
    rw [e] at h
    exact fun Hf1 H1 fp1 G1 F1 p1 => cont x ρ1 Hf1 H1 fp1 G1 F1 h
  | err c fs ρ1 => rw [e] at h; exact h σ
/-- a slot is set -/
theorem Good.set {v : V} {d : D} {o : Own} {i : Nat} (G : Good K cl C Hf H σ ρ fp) (r : R1 K cl Hf H v d o f) (hd : ∀ b, f b + fp b ≤ 1) (hp : (C.pin.all fun p => p.1 != i) = true) :
    ∃ fp', Good K cl C Hf H (σ.set i (some v)) (ρ.set i (some (d, o))) fp' ∧ ∀ b, fp' b ≤ f b + fp b := by
  have pin : ∀ p ∈ C.pin, (σ.set i (some v))[p.1]? = some (some p.2) := fun p m => by
    have := List.all_eq_true.mp hp p m
    rw [List.getElem?_set_ne (by simpa using Ne.symm (by simpa using this))]
    exact G.pin p m
  by_cases hi : i < σ.length
  · obtain ⟨k, e1, e2⟩ := G.env.drop i
    have hn : (ρ.set i none)[i]? = some none := by simp [← G.env.len, hi]
    have e3 := e1.put hi r hn
    rw [List.set_set] at e3
    exact ⟨_, ⟨G.sub, e3, fun b => by have := hd b; have := e2 b; show f b + k b ≤ 1; omega, pin, G.fac⟩, fun b => by have := e2 b; show f b + k b ≤ _; omega⟩
  · have h1 : σ.set i (some v) = σ := List.set_eq_of_length_le (by omega)
    have h2 : ρ.set i (some (d, o)) = ρ := List.set_eq_of_length_le (by rw [← G.env.len]; omega)
    rw [h1, h2]
    exact ⟨fp, G, fun b => by omega⟩
end
section
variable {X : Cx} {cl : String → Addr} {C : Pc} {W : WX} {p p1 p2 o o1 o2 : Bool} {e a c : Expr} {es : List Expr} {fe fa : M DO} {ft : M Bool} {fs : M (List DO)} {pos : Pos} {st : Stmt} {rest body orelse : List Stmt} {g h gb gc : M Fl}
def mNx : M Fl := M.ret .nx
def mSeq (g h : M Fl) : M Fl := fun ρ => match g ρ with
  | .ok .nx ρ' => h ρ'
  | r => r
theorem qss_nil : QSs X cl C W [] mNx := ⟨_, pss_nil, fun σ H D ρ Hf fp G w => w σ Hf H fp G Fr.refl⟩
theorem denSeq {K : PySem.W.Frag} {t u : TS} (h1 : DenS K cl C W t g) (h2 : DenS K cl C W u h) : DenS K cl C W (tSeq t u) (mSeq g h) := by
  intro σ H D ρ Hf fp G w
  refine h1 σ H _ ρ Hf fp G ?_
  unfold mSeq at w
  cases e : g ρ with
  | stuck => rw [e] at w; exact w
  | err c fs ρ1 => rw [e] at w; exact w
  | ok a ρ1 =>
    rw [e] at w
    cases a with
    | nx => exact fun σ' Hf' H' fp' G' F' => h2 σ' H' D ρ1 Hf' fp' G' (w.go F')
    | rt x => exact w
    | bk => exact w
    | ct => exact w
theorem qss_cons (h1 : QS X cl C W st g) (h2 : QSs X cl C W rest h) : QSs X cl C W (st :: rest) (mSeq g h) := by
  obtain ⟨t, pe, dn⟩ := h1
  obtain ⟨u, pu, du⟩ := h2
  exact ⟨_, pss_cons pe pu, denSeq dn du⟩
theorem qss_one (h1 : QS X cl C W st g) : QSs X cl C W [st] g := by
  obtain ⟨t, pe, dn⟩ := h1
  exact ⟨_, pss_one pe, dn⟩
theorem qs_pass : QS X cl C W (.Pass pos) mNx := ⟨_, ps_pass, fun σ H D ρ Hf fp G w => w σ Hf H fp G Fr.refl⟩
theorem qs_break : QS X cl C W (.Break pos) (M.ret .bk) := ⟨_, ps_break, fun σ H D ρ Hf fp G w => w σ Hf H fp G Fr.refl⟩
theorem qs_continue : QS X cl C W (.Continue pos) (M.ret .ct) := ⟨_, ps_continue, fun σ H D ρ Hf fp G w => w σ Hf H fp G Fr.refl⟩
/-! a slot is frozen, where nobody looks -/
def mFreeze (i : Nat) (g : M Fl) : M Fl := fun ρ => match ρ[i]? with
  | some (some (d, _)) => g (ρ.set i (some (d, .no)))
  | _ => g ρ
theorem Good.frzSlot {K : PySem.W.Frag} {Hf H : Hp} {σ : L2.St} {ρ : Env} {fp : Fp} {i : Nat} {d : D} {w : Own} (G : Good K cl C Hf H σ ρ fp) (hi : ρ[i]? = some (some (d, w))) : ∃ Hf' fp', Good K cl C Hf' H σ (ρ.set i (some (d, .no))) fp' ∧ Fr Hf H fp Hf' H fp' := by
  obtain ⟨v, gg, k, h1, h2, h3, h4⟩ := G.env.at hi
  have hn : ∀ b, gg b ≠ 0 → Hf b = none := fun b hb => (h2.live b hb).2
  have dis : ∀ b, gg b + k b ≤ 1 := fun b => by have := G.nd b; have := h4 b; omega
  have G0 : Good K cl C Hf H σ (ρ.set i none) k := ⟨G.sub, h3, fun b => by have := dis b; omega, G.pin, G.fac⟩
  have G1 := G0.freeze hn dis
  have r1 : R1 K cl (frzH Hf H gg) H v d .no Fp.z := h2.freeze (frzH_same hn) fun b hb => by unfold frzH; rw [if_neg hb]
  have hl : i < ρ.length := (List.getElem?_eq_some_iff.mp hi).1
  have e := G1.env.back h1 r1 (by simp [hl])
  rw [List.set_set] at e
  exact ⟨_, _, ⟨G1.sub, e, fun b => by have := G1.nd b; simp [Fp.z]; omega, G1.pin, G1.fac⟩, ⟨frzH_same hn, fun _ _ h _ => h, fun _ h => h, fun b hb => .inl (by have := h4 b; simp [Fp.z] at hb; omega), fun b hb => by
    unfold frzH at hb
    by_cases e : gg b = 0
    · rw [if_pos e] at hb; exact .inl hb
    · exact .inr (.inl (by have := h4 b; omega))⟩⟩
theorem qss_freeze (i : Nat) (h1 : QSs X cl C W rest g) : QSs X cl C W rest (mFreeze i g) := by
  obtain ⟨t, pe, dn⟩ := h1
  refine ⟨t, pe, fun σ H D ρ Hf fp G w => ?_⟩
  unfold mFreeze at w
  split at w
  · rename_i d oo hi
    obtain ⟨Hf', fp', G', F'⟩ := G.frzSlot hi
    exact dn σ H D _ Hf' fp' G' (w.go F')
  · exact dn σ H D ρ Hf fp G w
/-! expression statements, return -/
def mDrop (f : M DO) : M Fl := M.bind f fun _ => M.ret .nx
def mRet (f : M DO) : M Fl := M.bind f fun x => M.ret (.rt x)
theorem denDrop {K : PySem.W.Frag} {t : TE} (h : Den K cl C W p o t fe) : DenS K cl C W (tDrop t) (mDrop fe) := fun σ H D ρ Hf fp G w =>
  h.after (T := fun _ H1 => D.nx σ H1) G w fun x ρ1 v Hf1 H1 fp1 fd G1 r1 F1 c1 w1 => w1 σ Hf1 H1 fp1 G1 F1
theorem qs_expr (h : QX X cl C W p o e fe) (hs : swapsWith e none pos.line X.env = pure false := by rfl) : QS X cl C W (.Expr e pos) (mDrop fe) := by
  obtain ⟨t, pe, dn⟩ := h
  exact ⟨_, ps_expr pe hs, denDrop dn⟩
theorem qs_doc {x j pos pos'} : QS X cl C W (.Expr (.Constant (.str x) j pos) pos') mNx := ⟨_, ps_doc, fun σ H D ρ Hf fp G w => w σ Hf H fp G Fr.refl⟩
theorem qs_ret (h : QX X cl C W p true e fe) : QS X cl C W (.Return (some e) pos) (mRet fe) := by
  obtain ⟨t, pe, dn⟩ := h
  exact ⟨_, ps_ret pe, fun σ H D ρ Hf fp G w => dn.after (T := D.rt) G w fun x ρ1 v Hf1 H1 fp1 fd G1 r1 F1 c1 w1 => w1 σ v Hf1 H1 fp1 fd G1 r1 F1 (c1 rfl).1 (c1 rfl).2⟩
theorem qs_retN : QS X cl C W (.Return none pos) (M.ret (.rt (.non, .no))) :=
  ⟨_, ps_retN, fun σ H D ρ Hf fp G w => w σ .non Hf H fp Fp.z G (.non fun _ => rfl) Fr.refl (fun b => by have := G.nd b; simp [Fp.z]; omega) fun b hb => absurd rfl hb⟩
/-! x = e -/
def mSet (i : Nat) (f : M DO) : M Fl := M.bind f fun x ρ => .ok .nx (ρ.set i (some x))
theorem set_end {K : PySem.W.Frag} {σ : L2.St} {Hf H Hf1 H1 : Hp} {ρ1 : Env} {fp fp1 fd : Fp} {D : Ends} {i : Nat} {x : DO} {v : V} (G1 : Good K cl C Hf1 H1 σ ρ1 fp1) (r1 : R1 K cl Hf1 H1 v x.1 x.2 fd) (F1 : Fr Hf H fp Hf1 H1 fp1) (c1 : (∀ b, fd b + fp1 b ≤ 1) ∧ ∀ b, fd b ≠ 0 → fp b ≠ 0 ∨ H b = none)
    (hp : (C.pin.all fun p => p.1 != i) = true) (w : PSk K cl C Hf H fp D .nx (ρ1.set i (some x))) : D.nx (σ.set i (some v)) H1 := by
  obtain ⟨fp', G', l⟩ := G1.set r1 c1.1 hp
  refine w _ Hf1 H1 fp' G' ⟨F1.sub, F1.keep, F1.there, fun b hb => ?_, F1.newf⟩
  by_cases z : fd b = 0
  · exact F1.new b (by have := l b; omega)
  · exact c1.2 b z
theorem denSet {K : PySem.W.Frag} {t : TE} {i : Nat} (h : Den K cl C W p true t fe) (hp : (C.pin.all fun p => p.1 != i) = true) : DenS K cl C W (tAsg t (gName i)) (mSet i fe) := fun σ H D ρ Hf fp G w =>
  h.after (T := fun x H1 => gName i x σ H1 D.nx) G w fun x ρ1 v Hf1 H1 fp1 fd G1 r1 F1 c1 w1 => set_end G1 r1 F1 (c1 rfl) hp w1
theorem qs_set (i : Nat) {x : Str} {pos' : Pos} (hN : X.N.Nodup) (hi : X.N[i]? = some x) (hx : Loc X.env.scope x) (h : QX X cl C W p true e fe) (hp : (C.pin.all fun p => p.1 != i) = true := by rfl) (hs : swapsWith e (some (.Name x pos')) pos.line X.env = pure false := by rfl)
    (hf : X.fn x = true ∨ X.env.scope.names.lookup x = some .local := by first | exact .inl rfl | exact .inr rfl | assumption) : QS X cl C W (.Assign [.Name x pos'] e pos) (mSet i fe) := by
  obtain ⟨t, pe, dn⟩ := h
  exact ⟨_, ps_set (i := i) hN hi hx pe hs hf, denSet dn hp⟩
/-! if -/
def mIfS (t : M Bool) (g h : M Fl) : M Fl := M.bind t fun b => if b = true then g else h
theorem qs_if (hc : QT X cl C W p c ft) (h1 : QSs X cl C W body g) (h2 : QSs X cl C W orelse h) : QS X cl C W (.If c body orelse pos) (mIfS ft g h) := by
  obtain ⟨t, pe, dn⟩ := hc
  obtain ⟨u, pu, du⟩ := h1
  obtain ⟨u', pu', du'⟩ := h2
  refine ⟨_, ps_if pe pu pu', fun σ H D ρ Hf fp G w => dn.after G w fun x ρ1 Hf1 H1 fp1 G1 F1 w1 => ?_⟩
  cases x with
  | true =>
    rw [if_pos rfl] at w1 ⊢
    exact du σ H1 D ρ1 Hf1 fp1 G1 (w1.go F1)
  | false =>
    rw [if_neg Bool.false_ne_true] at w1 ⊢
    exact du' σ H1 D ρ1 Hf1 fp1 G1 (w1.go F1)
/-! while: the mirror's turns -/
/-- n turns at most; none: more would be needed -/
def whileN (t : M Bool) (g : M Fl) : Nat → Env → Option (Rz Fl)
  | 0, _ => none
  | n + 1, ρ => match t ρ with
    | .stuck => some .stuck
    | .err c fs ρ' => some (.err c fs ρ')
    | .ok false ρ' => some (.ok .nx ρ')
    | .ok true ρ' => match g ρ' with
      | .ok .nx ρ'' => whileN t g n ρ''
      | .ok .ct ρ'' => whileN t g n ρ''
      | .ok .bk ρ'' => some (.ok .nx ρ'')
      | r => some r
open Classical in
noncomputable def mWhile (t : M Bool) (g : M Fl) : M Fl := fun ρ => if h : ∃ n r, whileN t g n ρ = some r then (Classical.choose h.choose_spec) else .stuck
theorem whileN_more {t : M Bool} {g : M Fl} : ∀ {n k : Nat} {ρ : Env} {r : Rz Fl}, whileN t g n ρ = some r → n ≤ k → whileN t g k ρ = some r
  | 0, _, _, _, h, _ => by cases h
  | n + 1, 0, _, _, _, hk => absurd hk (by omega)
  | n + 1, k + 1, ρ, r, h, hk => by
    unfold whileN at h ⊢
    cases et : t ρ with
    | stuck => rw [et] at h; exact h
    | err c fs ρ1 => rw [et] at h; exact h
    | ok b ρ1 =>
      rw [et] at h
      cases b with
      | false => exact h
      | true =>
        dsimp only at h ⊢
        cases eg : g ρ1 with
        | stuck => rw [eg] at h; exact h
        | err c fs ρ2 => rw [eg] at h; exact h
        | ok a ρ2 =>
          rw [eg] at h
          cases a with
          | nx => exact whileN_more h (by omega)
          | ct => exact whileN_more h (by omega)
          | bk => exact h
          | rt x => exact h
theorem mWhile_of {t : M Bool} {g : M Fl} {n : Nat} {ρ : Env} {r : Rz Fl} (h : whileN t g n ρ = some r) : mWhile t g ρ = r := by
  have hh : ∃ n r, whileN t g n ρ = some r := ⟨n, r, h⟩
  unfold mWhile
  rw [dif_pos hh]
  have := Classical.choose_spec hh.choose_spec
  have a := whileN_more h (Nat.le_max_left n hh.choose)
  have b := whileN_more this (Nat.le_max_right n hh.choose)
  rw [a] at b
  exact (Option.some.inj b).symm
theorem mWhile_some {t : M Bool} {g : M Fl} {ρ : Env} (h : mWhile t g ρ ≠ .stuck) : ∃ n, whileN t g n ρ = some (mWhile t g ρ) := by
  by_cases hh : ∃ n r, whileN t g n ρ = some r
  · obtain ⟨n, r, hr⟩ := hh
    exact ⟨n, by rw [mWhile_of hr]; exact hr⟩
  · unfold mWhile at h
    rw [dif_neg hh] at h
    exact absurd rfl h
/-- one turn -/
theorem mWhile_eq (t : M Bool) (g : M Fl) (ρ : Env) : mWhile t g ρ = match t ρ with
    | .stuck => .stuck
    | .err c fs ρ' => .err c fs ρ'
    | .ok false ρ' => .ok .nx ρ'
    | .ok true ρ' => match g ρ' with
      | .ok .nx ρ'' => mWhile t g ρ''
      | .ok .ct ρ'' => mWhile t g ρ''
      | .ok .bk ρ'' => .ok .nx ρ''
      | r => r := by
  have one : ∀ n r, whileN t g (n + 1) ρ = some r → mWhile t g ρ = r := fun n r h => mWhile_of h
  have unf : ∀ n, whileN t g (n + 1) ρ = match t ρ with
    | .stuck => some .stuck
    | .err c fs ρ' => some (.err c fs ρ')
    | .ok false ρ' => some (.ok .nx ρ')
    | .ok true ρ' => match g ρ' with
      | .ok .nx ρ'' => whileN t g n ρ''
      | .ok .ct ρ'' => whileN t g n ρ''
      | .ok .bk ρ'' => some (.ok .nx ρ'')
      | r => some r := fun n => by rw [whileN]
  have go : ∀ ρ'', (∀ n, whileN t g (n + 1) ρ = whileN t g n ρ'') → mWhile t g ρ = mWhile t g ρ'' := by
    intro ρ'' hh
    by_cases h : ∃ n r, whileN t g n ρ'' = some r
    · obtain ⟨n, r, hr⟩ := h
      rw [mWhile_of hr]
      exact mWhile_of ((hh n).trans hr)
    · have h' : ¬ ∃ n r, whileN t g n ρ = some r := fun ⟨n, r, hr⟩ => by
        cases n with
        | zero => cases hr
        | succ n => exact h ⟨n, r, (hh n).symm.trans hr⟩
      unfold mWhile
      rw [dif_neg h, dif_neg h']
  cases et : t ρ with
  | stuck => exact one 0 _ (by rw [unf, et])
  | err c fs ρ1 => exact one 0 _ (by rw [unf, et])
  | ok b ρ1 =>
    cases b with
    | false => exact one 0 _ (by rw [unf, et])
    | true =>
      dsimp only
      cases eg : g ρ1 with
      | stuck => exact one 0 _ (by rw [unf, et]; dsimp only; rw [eg])
      | err c fs ρ2 => exact one 0 _ (by rw [unf, et]; dsimp only; rw [eg])
      | ok a ρ2 =>
        cases a with
        | nx => exact go ρ2 fun n => by rw [unf, et]; dsimp only; rw [eg]
        | ct => exact go ρ2 fun n => by rw [unf, et]; dsimp only; rw [eg]
        | bk => exact one 0 _ (by rw [unf, et]; dsimp only; rw [eg])
        | rt x => exact one 0 _ (by rw [unf, et]; dsimp only; rw [eg])
theorem qs_while (hpo : PassesOwn (model X.prog X.w) X.A X.env X.xe) (hc : QT X cl C W p c ft) (hb : QSs X cl C W body gb) : QS X cl C W (.While c body [] pos) (mWhile ft gb) := by
  obtain ⟨t, pe, dn⟩ := hc
  obtain ⟨u, pu, du⟩ := hb
  refine ⟨_, ps_while hpo pe pu, fun σ0 H0 D ρ0 Hf0 fp0 G0 w0 => ?_⟩
  have hns : mWhile ft gb ρ0 ≠ .stuck := fun h => by rw [h] at w0; exact w0
  obtain ⟨n0, hn0⟩ := mWhile_some hns
  refine ⟨fun m σ H => ∃ ρ Hf fp r, Good X.K cl C Hf H σ ρ fp ∧ Fr Hf0 H0 fp0 Hf H fp ∧ whileN ft gb m ρ = some r ∧ WzS X.K cl C W Hf0 H0 fp0 r (PSk X.K cl C Hf0 H0 fp0 D), ⟨n0, ρ0, Hf0, fp0, _, G0, Fr.refl, hn0, w0⟩, ?_⟩
  rintro m σ H ⟨ρ, Hf, fp, r, G, F, hr, wr⟩
  cases m with
  | zero => cases hr
  | succ m =>
    rw [whileN] at hr
    refine dn σ H _ ρ Hf fp G ?_
    cases et : ft ρ with
    | stuck => rw [et] at hr; cases hr; exact wr
    | err c fs ρ1 => rw [et] at hr; cases hr; exact WzE.past (wr σ) F
    | ok b ρ1 =>
      rw [et] at hr
      intro Hf1 H1 fp1 G1 F1 _
      cases b with
      | false =>
        cases hr
        rw [if_neg Bool.false_ne_true]
        exact wr σ Hf1 H1 fp1 G1 (F.trans F1)
      | true =>
        rw [if_pos rfl]
        dsimp only at hr
        refine ⟨fun σ' H' => ∃ ρ Hf fp r, Good X.K cl C Hf H' σ' ρ fp ∧ Fr Hf0 H0 fp0 Hf H' fp ∧ whileN ft gb m ρ = some r ∧ WzS X.K cl C W Hf0 H0 fp0 r (PSk X.K cl C Hf0 H0 fp0 D), fun σ' H' h => ⟨m, Nat.lt_succ_self m, h⟩, ?_⟩
        refine du σ H1 _ ρ1 Hf1 fp1 G1 ?_
        cases eg : gb ρ1 with
        | stuck => rw [eg] at hr; cases hr; exact wr
        | err c fs ρ2 => rw [eg] at hr; cases hr; exact fun σ' => WzE.past (wr σ') (F.trans F1)
        | ok a ρ2 =>
          rw [eg] at hr
          cases a with
          | nx => exact fun σ' Hf' H' fp' G' F' => ⟨ρ2, Hf', fp', r, G', (F.trans F1).trans F', hr, wr⟩
          | ct => exact fun σ' Hf' H' fp' G' F' => ⟨ρ2, Hf', fp', r, G', (F.trans F1).trans F', hr, wr⟩
          | bk => cases hr; exact fun σ' Hf' H' fp' G' F' => wr σ' Hf' H' fp' G' ((F.trans F1).trans F')
          | rt x => cases hr; exact PSk.past (a := .rt x) wr (F.trans F1)
/-! ### a def by its body -/
/-- the pinned slots: the lent parameters -/
def pinF (mi : List Nat) (vf : Nat → V) : Pc := ⟨mi.map fun i => (i, vf i), fun _ => True, fun _ h => h⟩
def takeMuts (mi : List Nat) (ρ : Env) : Option (List DO) := match mi with
  | [] => some []
  | i :: mi => match ρ[i]?, takeMuts mi (ρ.set i none) with
    | some (some x), some r => some (x :: r)
    | _, _ => none
def runBody (n : Nat) (mi : List Nat) (g : M Fl) (ds : List DO) : Rf := match g (ds.map some ++ List.replicate (n - ds.length) none) with
  | .stuck => .stuck
  | .ok (.rt x) ρ => (match takeMuts mi ρ with | some ms => .ok x ms | none => .stuck)
  | .ok .nx ρ => (match takeMuts mi ρ with | some ms => .ok (.non, .no) ms | none => .stuck)
  | .ok _ _ => .stuck
  | .err c fs ρ => (match takeMuts mi ρ with | some ms => .err c fs ms | none => .stuck)
theorem takeMuts_ok {K : PySem.W.Frag} {Hf H : Hp} {σ : L2.St} {vf : Nat → V} : ∀ {mi : List Nat} {ρ : Env} {ms : List DO} {f : Fp}, EnvR K cl Hf H σ ρ f → (∀ i ∈ mi, σ[i]? = some (some (vf i))) → takeMuts mi ρ = some ms →
    ∃ fm, Rs K cl Hf H (mi.map vf) (ms.map (·.1)) (ms.map (·.2)) fm ∧ ∀ b, fm b ≤ f b
  | [], ρ, ms, f, e, hp, h => by cases h; exact ⟨Fp.z, .nil fun _ => rfl, fun b => Nat.zero_le _⟩
  | i :: mi, ρ, ms, f, e, hp, h => by
    rw [takeMuts] at h
    split at h
    · rename_i x r h1 h2
      cases h
      obtain ⟨v, g, k, e1, e2, e3, e4⟩ := e.at (d := x.1) (o := x.2) h1
      rw [hp i (List.mem_cons_self ..)] at e1
      cases e1
      obtain ⟨fm, r1, r2⟩ := takeMuts_ok e3 (fun j m => hp j (List.mem_cons_of_mem _ m)) h2
      exact ⟨fun b => g b + fm b, .cons e2 r1 fun b => rfl, fun b => by have := r2 b; have := e4 b; show g b + fm b ≤ _; omega⟩
    · cases h
theorem envR_start {K : PySem.W.Frag} {Hf H : Hp} : ∀ {vs : List V} {ds : List DO} {f : Fp} (k : Nat), Rs K cl Hf H vs (ds.map (·.1)) (ds.map (·.2)) f → EnvR K cl Hf H (vs.map some ++ List.replicate k none) (ds.map some ++ List.replicate k none) f
  | [], ds, f, k, r => by
    cases ds with
    | cons _ _ => cases r
    | nil =>
      cases r with
      | nil hf =>
        simp only [List.map_nil, List.nil_append]
        induction k with
        | zero => exact .nil hf
        | succ k ih => exact .gap ih
  | v :: vs, ds, f, k, r => by
    cases ds with
    | nil => cases r
    | cons d ds =>
      cases r with
      | cons r rs hf => exact .has r (envR_start k rs) hf
theorem spD_len {K : PySem.W.Frag} {n : Nat} {mi : List Nat} {m : List DO → Rf} {vs : List V} {H : Hp} {Q : VK} {E : XK} (h : spD K cl n mi m vs H Q E) : vs.length = n := h.1
/-- THE RULE for a def -/
theorem fnD {P : Program} {w : World} {K : PySem.W.Frag} {mg : Str → Option Value} {base : Heap} {x qual : Str} {st : Stmt} {f : Addr} {fd : FuncData} {N ps : List Str} {k n : Nat} {mi : List Nat} {g : M Fl} (F : Fun K x qual st f fd) (S : FnScope N ps (defScope st)) (hn : ps.length = n) (hmi : ∀ i ∈ mi, i < n)
    (body : ∀ (cdv : Value) (A : Around) (outer : List PySem.Env) (s : Shared) (H : Hp) (E : XK) (vf : Nat → V), Room k (A.deeper (PyProof.Rows.envOfC qual (defScope st) s.heap.objs.size f cdv)) →
      QSs (cxOf (L2.CX P w) P w K mg base N qual (defScope st) f cdv A outer s H E) cl (pinF mi vf) (fun cls d _ H => E cls d H) (defBody st) g) :
    FnOk P w K mg base (L2.CX P w) (k + 1) f fd ps (spD K cl n mi (runBody N.length mi g)) := by
  refine F.okX S (fun vs H Q E h => by rw [hn]; exact h.1) fun cdv A outer s H vs Q E hr h => ?_
  obtain ⟨hl, Hf, ds, ff, hs, r, d1, lo, wf⟩ := h
  obtain ⟨t, pe, dn⟩ := body cdv A outer s H E (fun i => vs.getD i .non) hr
  refine ⟨t, pe, ?_⟩
  have hlen : vs.length = ds.length := by have := r.len.1; simpa using this
  have hpin : ∀ i ∈ mi, (L2.start N vs)[i]? = some (some (vs.getD i .non)) := fun i m => by
    have hi : i < vs.length := by rw [hl]; exact hmi i m
    unfold L2.start
    rw [List.getElem?_append_left (by simpa using hi), List.getElem?_map, List.getElem?_eq_getElem hi]
    simp [hi]
  have G : Good K cl (pinF mi fun i => vs.getD i .non) Hf H (L2.start N vs) (ds.map some ++ List.replicate (N.length - ds.length) none) ff := by
    refine ⟨hs, ?_, d1, fun p m => ?_, trivial⟩
    · unfold L2.start
      rw [hlen]
      exact envR_start _ r
    · obtain ⟨i, hi, rfl⟩ := List.mem_map.mp m
      exact hpin i hi
  refine dn (L2.start N vs) H _ _ Hf ff G ?_
  unfold runBody at wf
  have back : ∀ {σ' : L2.St} {Hf' H' : Hp} {ρ' : Env} {fp' : Fp} {ms : List DO}, Good K cl (pinF mi fun i => vs.getD i .non) Hf' H' σ' ρ' fp' → takeMuts mi ρ' = some ms → ∃ fm, Rs K cl Hf' H' (pick mi vs) (ms.map (·.1)) (ms.map (·.2)) fm ∧ ∀ b, fm b ≤ fp' b := fun {σ' Hf' H' ρ' fp' ms} G' ht =>
    takeMuts_ok G'.env (fun i m => G'.pin (i, _) (List.mem_map.mpr ⟨i, m, rfl⟩)) ht
  cases eg : g (ds.map some ++ List.replicate (N.length - ds.length) none) with
  | stuck => rw [eg] at wf; exact wf
  | err c fs ρ' =>
    rw [eg] at wf
    dsimp only at wf
    cases et : takeMuts mi ρ' with
    | none => rw [et] at wf; exact False.elim wf
    | some ms =>
      rw [et] at wf
      intro σ' Hf' H' fp' dx fvs os gg G' F' hx hx' hk hr' ho
      obtain ⟨fm, rm, lm⟩ := back G' et
      exact wf Hf' H' fm dx fvs os gg G'.sub rm (fun b => by have := lm b; have := G'.nd b; omega) (F'.less lm) hx hx' hk hr' ho
  | ok a ρ' =>
    rw [eg] at wf
    cases a with
    | nx =>
      dsimp only at wf
      cases et : takeMuts mi ρ' with
      | none => rw [et] at wf; exact False.elim wf
      | some ms =>
        rw [et] at wf
        intro σ' Hf' H' fp' G' F'
        obtain ⟨fm, rm, lm⟩ := back G' et
        exact wf .non Hf' H' Fp.z fm G'.sub (.non fun _ => rfl) rm (fun b => by have := lm b; have := G'.nd b; simp [Fp.z]; omega) (F'.less fun b => by have := lm b; simp [Fp.z]; omega)
    | rt y =>
      dsimp only at wf
      cases et : takeMuts mi ρ' with
      | none => rw [et] at wf; exact False.elim wf
      | some ms =>
        rw [et] at wf
        intro σ' v Hf' H' fp' fd' G' r' F' d' n'
        obtain ⟨fm, rm, lm⟩ := back G' et
        exact wf v Hf' H' fd' fm G'.sub r' rm (fun b => by have := lm b; have := d' b; omega) (F'.more fun b hb => by
          by_cases z : fd' b = 0
          · exact F'.new b (by have hb : fd' b + fm b ≠ 0 := hb; have := lm b; omega)
          · exact n' b z)
    | bk => exact False.elim wf
    | ct => exact False.elim wf
end
end DL
/-! What is walked; for; comprehensions. -/
namespace DL
open PySem PySem.Spec L2
/-! ### the least reading: uniform in the context -/
section
variable (K : PySem.W.Frag) (cl : String → Addr) (C : Pc) (W : WX)
def tStar (p own : Bool) (f : M DO) : TE := fun σ H Q => ∃ ρ Hf fp, Good K cl C Hf H σ ρ fp ∧ Wz K cl C W σ Hf H fp (f ρ) (POk K cl C p own σ Hf H fp Q)
def ttStar (p : Bool) (f : M Bool) : TT := fun σ H Q => ∃ ρ Hf fp, Good K cl C Hf H σ ρ fp ∧ Wz K cl C W σ Hf H fp (f ρ) (PtOk K cl C p σ Hf H fp Q)
end
section
variable {X : Cx} {cl : String → Addr} {C : Pc} {W : WX} {p o : Bool} {e : Expr} {f : M DO} {ft : M Bool}
theorem QX.star (h : QX X cl C W p o e f) : PE X e (tStar X.K cl C W p o f) := by
  obtain ⟨t, pe, dn⟩ := h
  exact ⟨fun pins s σ H Q I ⟨ρ, Hf, fp, G, w⟩ => pe.run pins s σ H Q I (dn σ H Q ρ Hf fp G w)⟩
theorem QT.star (h : QT X cl C W p e ft) : PT X e (ttStar X.K cl C W p ft) := by
  obtain ⟨t, pe, dn⟩ := h
  exact ⟨fun pins s σ H Q I ⟨ρ, Hf, fp, G, w⟩ => pe.run pins s σ H Q I (dn σ H Q ρ Hf fp G w)⟩
end
/-! ### targets -/
abbrev Tgt := D → Env → Option Env
section
variable (K : PySem.W.Frag) (cl : String → Addr) (C : Pc)
/-- ts: the slots that it may store to -/
def DenG (ts : List Nat) (g : TG) (tg : Tgt) : Prop := ∀ v d σ H Q ρ Hf fp f, Good K cl C Hf H σ ρ fp → R1 K cl Hf H v d .no f → ∀ ρ', tg d ρ = some ρ' → (∀ σ' fp', Good K cl C Hf H σ' ρ' fp' → (∀ b, fp' b ≤ fp b) → (∀ vs, (∀ i ∈ ts, i ∈ vs) → wipe σ' vs = wipe σ vs) → Q σ' H) → g v σ H Q
abbrev Tgts := List D → Env → Option Env
def DenGs (ts : List Nat) (g : TGs) (tg : Tgts) : Prop := ∀ vs ds os σ H Q ρ Hf fp f, Good K cl C Hf H σ ρ fp → Rs K cl Hf H vs ds os f → (∀ o ∈ os, o = .no) → ∀ ρ', tg ds ρ = some ρ' → (∀ σ' fp', Good K cl C Hf H σ' ρ' fp' → (∀ b, fp' b ≤ fp b) → (∀ vs, (∀ i ∈ ts, i ∈ vs) → wipe σ' vs = wipe σ vs) → Q σ' H) → g vs σ H Q
end
structure QG (X : Cx) (cl : String → Addr) (C : Pc) (ts : List Nat) (e : Expr) (tg : Tgt) : Prop where
  ex : ∃ g, PG X e g ∧ DenG X.K cl C ts g tg
structure QGs (X : Cx) (cl : String → Addr) (C : Pc) (ts : List Nat) (es : List Expr) (tg : Tgts) : Prop where
  ex : ∃ g, PGs X es g ∧ DenGs X.K cl C ts g tg
def gStar (K : PySem.W.Frag) (cl : String → Addr) (C : Pc) (ts : List Nat) (tg : Tgt) : TG := fun v σ H Q => ∃ d ρ Hf fp f ρ', Good K cl C Hf H σ ρ fp ∧ R1 K cl Hf H v d .no f ∧ tg d ρ = some ρ' ∧ ∀ σ' fp', Good K cl C Hf H σ' ρ' fp' → (∀ b, fp' b ≤ fp b) → (∀ vs, (∀ i ∈ ts, i ∈ vs) → wipe σ' vs = wipe σ vs) → Q σ' H
theorem QG.star {X : Cx} {cl : String → Addr} {C : Pc} {ts : List Nat} {e : Expr} {tg : Tgt} (h : QG X cl C ts e tg) : PG X e (gStar X.K cl C ts tg) := by
  obtain ⟨g, pe, dn⟩ := h
  exact ⟨fun pins s σ H v u Q I r ⟨d, ρ, Hf, fp, f, ρ', G, rr, e, k⟩ => pe.run pins s σ H v u Q I r (dn v d σ H Q ρ Hf fp f G rr ρ' e k)⟩
theorem wipe_set {i : Nat} {x : Option V} : ∀ {σ : L2.St} {vs : List Nat}, i ∈ vs → wipe (σ.set i x) vs = wipe σ vs
  | σ, [], h => by cases h
  | σ, v :: vs, h => by
    show (wipe (σ.set i x) vs).set v none = (wipe σ vs).set v none
    by_cases e : i ∈ vs
    · rw [wipe_set e]
    · have hv : i = v := by
        rcases List.mem_cons.mp h with h | h
        · exact h
        · exact absurd h e
      subst hv
      have comm : ∀ (vs : List Nat), i ∉ vs → wipe (σ.set i x) vs = (wipe σ vs).set i x := by
        intro vs
        induction vs with
        | nil => intro _; rfl
        | cons u us ih =>
          intro hn
          have hu : i ≠ u := fun h => hn (h ▸ List.mem_cons_self ..)
          show (wipe (σ.set i x) us).set u none = ((wipe σ us).set u none).set i x
          rw [ih fun h => hn (List.mem_cons_of_mem _ h), List.set_comm _ _ hu]
      rw [comm vs e, List.set_set]
section
variable {X : Cx} {cl : String → Addr} {C : Pc} {W : WX} {p p1 p2 o o1 o2 : Bool} {e a c : Expr} {es : List Expr} {fe fa : M DO} {ft : M Bool} {fs : M (List DO)} {pos : Pos}
def tgN (i : Nat) : Tgt := fun d ρ => some (ρ.set i (some (d, .no)))
def tgT (n : Nat) (tg : Tgts) : Tgt := fun d ρ => match d with
  | .tup ds => if ds.length = n then tg ds ρ else none
  | _ => none
def tgNil : Tgts := fun ds ρ => match ds with
  | [] => some ρ
  | _ => none
def tgCons (t : Tgt) (u : Tgts) : Tgts := fun ds ρ => match ds with
  | d :: ds => (t d ρ).bind (u ds)
  | [] => none
theorem denN {K : PySem.W.Frag} (i : Nat) (hp : (C.pin.all fun p => p.1 != i) = true) : DenG K cl C [i] (gName i) (tgN i) := fun v d σ H Q ρ Hf fp f G r ρ' e k => by
  cases e
  obtain ⟨fp', G', l⟩ := G.set r (fun b => by rw [r.zero_of_no b]; have := G.nd b; omega) hp
  exact k _ fp' G' (fun b => by have := l b; rw [r.zero_of_no b] at this; omega) fun vs h => wipe_set (h i (List.mem_singleton.mpr rfl))
theorem qg_name (i : Nat) {x : Str} {pos : Pos} (hN : X.N.Nodup) (hi : X.N[i]? = some x) (hx : Loc X.env.scope x) (hp : (C.pin.all fun p => p.1 != i) = true := by rfl) (hf : X.fn x = true ∨ X.env.scope.names.lookup x = some .local := by first | exact .inl rfl | exact .inr rfl | assumption) : QG X cl C [i] (.Name x pos) (tgN i) :=
  ⟨_, pg_name (i := i) hN hi hx hf, denN i hp⟩
theorem qgs_nil : QGs X cl C [] [] tgNil := ⟨_, pgs_nil, fun vs ds os σ H Q ρ Hf fp f G r ho ρ' e k => by
  cases ds with
  | nil => cases r; cases e; exact ⟨rfl, k σ fp G (fun b => Nat.le_refl _) fun vs _ => rfl⟩
  | cons d ds => cases e⟩
theorem qgs_cons {ts us : List Nat} {tg : Tgt} {ug : Tgts} (h1 : QG X cl C ts e tg) (h2 : QGs X cl C us es ug) (hs : (assignEach (e :: es) X.env).map (·.2) = assign e X.env :: (assignEach es X.env).map (·.2) := by rfl) : QGs X cl C (ts ++ us) (e :: es) (tgCons tg ug) := by
  obtain ⟨g, pe, dn⟩ := h1
  obtain ⟨u, pu, du⟩ := h2
  refine ⟨_, pgs_cons pe pu hs, fun vs ds os σ H Q ρ Hf fp f G r ho ρ' e k => ?_⟩
  cases ds with
  | nil => cases e
  | cons d ds =>
    cases r with
    | @cons f1 g1 _ v vs _ _ o os r rs hf =>
      have e0 := ho o (List.mem_cons_self ..)
      subst e0
      unfold tgCons at e
      dsimp only at e
      cases et : tg d ρ with
      | none => rw [et] at e; cases e
      | some ρ1 =>
        rw [et] at e
        refine ⟨v, vs, rfl, dn v d σ H _ ρ Hf fp f1 G r ρ1 et fun σ1 fp1 G1 l1 w1 => ?_⟩
        exact du vs ds os σ1 H Q ρ1 Hf fp1 g1 G1 rs (fun o m => ho o (List.mem_cons_of_mem _ m)) ρ' e fun σ2 fp2 G2 l2 w2 => k σ2 fp2 G2 (fun b => Nat.le_trans (l2 b) (l1 b)) fun vs h =>
          (w2 vs fun i m => h i (List.mem_append_right _ m)).trans (w1 vs fun i m => h i (List.mem_append_left _ m))
theorem qg_tup {n kk : Nat} {us : List Nat} {ug : Tgts} {tpos : Pos} (h : QGs X cl C us es ug) (hc : X.calm = true := by rfl) (hn : (assignEach es X.env).length = n := by rfl) (hst : (assignEach es X.env).findIdx? (·.1) = none := by rfl) : QG X cl C us (.Tuple es kk tpos) (tgT n ug) := by
  obtain ⟨u, pu, du⟩ := h
  refine ⟨_, pg_tup hc pu hn hst, fun v d σ H Q ρ Hf fp f G r ρ' e k => ?_⟩
  unfold tgT at e
  split at e
  · rename_i ds
    split at e
    · rename_i hl
      obtain ⟨a, vs, os, rfl, ha, ha', rs, ho⟩ := r.isTup G.sub
      exact ⟨a, vs, rfl, SqT.of ha, rs.len.1.trans hl, du vs ds os σ H Q ρ Hf fp Fp.z G rs ho ρ' e k⟩
    · cases e
  · cases e
/-! ### what is walked -/
structure ItOk (K : PySem.W.Frag) (cl : String → Addr) (J : It) (ds : List D) (S : Hp → Prop) : Prop where
  mono : ∀ {A B : Hp}, Same A B → S A → S B
  go : ∀ i Hf H, i < ds.length → S Hf → Same Hf H → J.go i H
  stop : ∀ Hf H, S Hf → Same Hf H → J.stop ds.length H
  yld : ∀ i d Hf H x H', ds[i]? = some d → S Hf → Same Hf H → J.yld i H x H' → (H' = H ∧ R1 K cl Hf H x d .no Fp.z) ∨ ∃ T vs es, H T = none ∧ H' = upd H T (.tup vs) ∧ x = .ref T ∧ d = .tup es ∧ Rs K cl Hf H vs es (List.replicate es.length .no) Fp.z
theorem ItOk.next {K : PySem.W.Frag} {J : It} {ds : List D} {S : Hp → Prop} {i : Nat} {d : D} {Hf H H' : Hp} {x : V} {σ : L2.St} {ρ : Env} {fp : Fp} (I : ItOk K cl J ds S) (hd : ds[i]? = some d) (hS : S Hf) (G : Good K cl C Hf H σ ρ fp) (y : J.yld i H x H') :
    ∃ Hf', Good K cl C Hf' H' σ ρ fp ∧ Fr Hf H fp Hf' H' fp ∧ R1 K cl Hf' H' x d .no Fp.z ∧ (H' = H ∧ Hf' = Hf ∨ ∃ T o, H T = none ∧ H' = upd H T o ∧ Hf' = upd Hf T o) := by
  rcases I.yld i d Hf H x H' hd hS G.sub y with ⟨rfl, r⟩ | ⟨T, vs, es, hT, rfl, rfl, rfl, r⟩
  · exact ⟨Hf, G, Fr.refl, r, .inl ⟨rfl, rfl⟩⟩
  · have hn : Hf T = none := G.sub.free hT
    exact ⟨_, G.allocF hT _, Fr.allocF hT hn _, .tup upd_same (r.to (Same.newf hn _) fun b hb => absurd rfl hb) mem_rep fun _ => rfl, .inr ⟨T, _, hT, rfl, rfl⟩⟩
def DenI (K : PySem.W.Frag) (cl : String → Addr) (C : Pc) (W : WX) (wi : TI) (f : M (List D)) : Prop := ∀ σ H R ρ Hf fp, Good K cl C Hf H σ ρ fp → Wz K cl C W σ Hf H fp (f ρ) (fun ds ρ' => ∀ J Hf' H' fp' S, Good K cl C Hf' H' σ ρ' fp' → Fr Hf H fp Hf' H' fp' → ItOk K cl J ds S → S Hf' → R J H') → wi σ H R
structure QI (X : Cx) (cl : String → Addr) (C : Pc) (W : WX) (tg e : Expr) (f : M (List D)) : Prop where
  ex : ∃ wi, PI X tg e wi ∧ DenI X.K cl C W wi f
theorem pi_or2 {tg : Expr} {t u : TI} (h1 : PI X tg e t) (h2 : PI X tg e u) : PI X tg e (fun σ H R => t σ H R ∨ u σ H R) := ⟨fun pins s σ H R I h => by
  rcases h with h | h
  · exact h1.run pins s σ H R I h
  · exact h2.run pins s σ H R I h⟩
/-- the items of a row or a text -/
def itemsD : D → Option (List D)
  | .lst ds => some ds
  | .lsk ds => some ds
  | .tup ds => some ds
  | .tupk ds => some ds
  | .str s => some ((signs s).map .str)
  | _ => none
def mItems (f : M DO) : M (List D) := M.bind f fun x ρ => match itemsD x.1 with | some ds => .ok ds ρ | none => .stuck
theorem itList {K : PySem.W.Frag} {a : Addr} {vs : List V} {ds : List D} : ItOk K cl (Itl K a) ds (fun Hf => SqL K Hf a vs ∧ Rs K cl Hf Hf vs ds (List.replicate ds.length .no) Fp.z) where
  mono := fun s h => ⟨sqL_sub s h.1, h.2.to s fun b hb => absurd rfl hb⟩
  go := fun i Hf H hi h s => by
    have l := h.2.len.1
    exact ⟨vs, vs[i]'(by omega), sqL_sub s h.1, List.getElem?_eq_getElem _⟩
  stop := fun Hf H h s => ⟨vs, sqL_sub s h.1, Nat.le_of_eq h.2.len.1⟩
  yld := fun i d Hf H x H' hd h s y => by
    obtain ⟨v, hv, r⟩ := R.sub h.2 mem_rep hd
    obtain ⟨rfl, hx⟩ := y
    have := hx vs (sqL_sub s h.1)
    rw [hv] at this; cases this
    exact .inl ⟨rfl, r.to (Same.refl _) fun b hb => absurd rfl hb⟩
theorem itTup {K : PySem.W.Frag} {a : Addr} {vs : List V} {ds : List D} : ItOk K cl (Itt K a) ds (fun Hf => SqT K Hf a vs ∧ Rs K cl Hf Hf vs ds (List.replicate ds.length .no) Fp.z) where
  mono := fun s h => ⟨sqT_sub s h.1, h.2.to s fun b hb => absurd rfl hb⟩
  go := fun i Hf H hi h s => by
    have l := h.2.len.1
    exact ⟨vs, vs[i]'(by omega), sqT_sub s h.1, List.getElem?_eq_getElem _⟩
  stop := fun Hf H h s => ⟨vs, sqT_sub s h.1, Nat.le_of_eq h.2.len.1⟩
  yld := fun i d Hf H x H' hd h s y => by
    obtain ⟨v, hv, r⟩ := R.sub h.2 mem_rep hd
    obtain ⟨rfl, hx⟩ := y
    have := hx vs (sqT_sub s h.1)
    rw [hv] at this; cases this
    exact .inl ⟨rfl, r.to (Same.refl _) fun b hb => absurd rfl hb⟩
theorem itStr {K : PySem.W.Frag} {z : Str} : ItOk K cl (Its z) ((signs z).map .str) (fun _ => True) where
  mono := fun _ _ => trivial
  go := fun i Hf H hi _ _ => (walk_str (z := z)).goes i H (by simpa [signs] using hi) trivial
  stop := fun Hf H _ _ => by
    have := (walk_str (z := z)).stops H trivial
    rwa [show ((signs z).map D.str).length = z.cps.size by simp [signs]]
  yld := fun i d Hf H x H' hd _ _ y => by
    have hi : i < z.cps.size := by
      have := (List.getElem?_eq_some_iff.mp hd).1
      simpa [signs] using this
    obtain ⟨rfl, c, hc, rfl⟩ := (walk_str (z := z)).yields i H x H' hi trivial y
    simp [signs, hc] at hd
    subst hd
    exact .inl ⟨rfl, r_str _⟩
/-- frozen: what is walked stands still -/
theorem qi_seq {tg : Expr} (h : QX X cl C W p true e fe) : QI X cl C W tg e (mItems fe) := by
  obtain ⟨t, pe, dn⟩ := h
  refine ⟨_, pi_or2 (pi_list pe) (pi_or2 (pi_tup pe) (pi_str pe)), fun σ H R ρ Hf fp G w => ?_⟩
  -- which of the three
  have key : ∀ (T : VK), (∀ x ρ1 v Hf1 H1 fp1 fd, fe ρ = .ok x ρ1 → Good X.K cl C Hf1 H1 σ ρ1 fp1 → R1 X.K cl Hf1 H1 v x.1 x.2 fd → Fr Hf H fp Hf1 H1 fp1 → ((∀ b, fd b + fp1 b ≤ 1) ∧ ∀ b, fd b ≠ 0 → fp b ≠ 0 ∨ H b = none) → Wz X.K cl C W σ Hf1 H1 fp1 ((match itemsD x.1 with | some ds => Rz.ok ds ρ1 | none => .stuck)) (fun ds ρ' => ∀ J Hf' H' fp' S, Good X.K cl C Hf' H' σ ρ' fp' → Fr Hf H fp Hf' H' fp' → ItOk X.K cl J ds S → S Hf' → R J H') → T v H1) → t σ H T := fun T hT => by
    refine dn σ H T ρ Hf fp G ?_
    unfold mItems M.bind at w
    cases e : fe ρ with
    | stuck => rw [e] at w; exact w
    | err c fs ρ1 => rw [e] at w; exact w
    | ok x ρ1 =>
      rw [e] at w
      exact fun v Hf1 H1 fp1 fd G1 r1 F1 o1 p1 => hT x ρ1 v Hf1 H1 fp1 fd e G1 r1 F1 (o1 rfl) (Wz.past w F1)
  have frz : ∀ {x : DO} {ρ1 : Env} {v : V} {Hf1 H1 : Hp} {fp1 fd : Fp}, Good X.K cl C Hf1 H1 σ ρ1 fp1 → R1 X.K cl Hf1 H1 v x.1 x.2 fd → Fr Hf H fp Hf1 H1 fp1 → ((∀ b, fd b + fp1 b ≤ 1) ∧ ∀ b, fd b ≠ 0 → fp b ≠ 0 ∨ H b = none) →
      ∃ Hf2, Good X.K cl C Hf2 H1 σ ρ1 fp1 ∧ R1 X.K cl Hf2 H1 v x.1 .no Fp.z ∧ Fr Hf H fp Hf2 H1 fp1 := fun {x ρ1 v Hf1 H1 fp1 fd} G1 r1 F1 o1 => by
    have hn : ∀ b, fd b ≠ 0 → Hf1 b = none := fun b hb => (r1.live b hb).2
    exact ⟨_, G1.freeze hn o1.1, r1.freeze (frzH_same hn) (fun b hb => by unfold frzH; rw [if_neg hb]), F1.freeze hn o1.2⟩
  cases ee : fe ρ with
  | stuck => exact False.elim (by unfold mItems M.bind at w; rw [ee] at w; exact w)
  | err c fs ρ1 => exact .inl (key _ fun x ρ1 v Hf1 H1 fp1 fd e => by rw [ee] at e; cases e)
  | ok x ρ0 =>
    cases ex : x.1 with
    | lst ds =>
      refine .inl (key _ fun y ρ1 v Hf1 H1 fp1 fd e G1 r1 F1 o1 w1 => ?_)
      rw [ee] at e; cases e
      rw [ex] at w1
      obtain ⟨Hf2, G2, r2, F2⟩ := frz G1 r1 F1 o1
      rw [ex] at r2
      cases r2 with
      | lstF h r ho hf =>
        exact ⟨_, rfl, ⟨_, SqL.of (G2.sub _ _ h)⟩, w1 _ Hf2 H1 fp1 _ G2 F2 itList ⟨SqL.of h, (r.nos ho).to (Same.refl _) fun b hb => absurd rfl hb⟩⟩
    | lsk ds =>
      refine .inl (key _ fun y ρ1 v Hf1 H1 fp1 fd e G1 r1 F1 o1 w1 => ?_)
      rw [ee] at e; cases e
      rw [ex] at w1
      obtain ⟨Hf2, G2, r2, F2⟩ := frz G1 r1 F1 o1
      rw [ex] at r2
      cases r2 with
      | lsk h r ho hf =>
        exact ⟨_, rfl, ⟨_, sqL_sub G2.sub h⟩, w1 _ Hf2 H1 fp1 _ G2 F2 itList ⟨h, (r.nos ho).to (Same.refl _) fun b hb => absurd rfl hb⟩⟩
    | tup ds =>
      refine .inr (.inl (key _ fun y ρ1 v Hf1 H1 fp1 fd e G1 r1 F1 o1 w1 => ?_))
      rw [ee] at e; cases e
      rw [ex] at w1
      obtain ⟨Hf2, G2, r2, F2⟩ := frz G1 r1 F1 o1
      rw [ex] at r2
      cases r2 with
      | tup h r ho hf =>
        exact ⟨_, rfl, ⟨_, SqT.of (G2.sub _ _ h)⟩, w1 _ Hf2 H1 fp1 _ G2 F2 itTup ⟨SqT.of h, (r.nos ho).to (Same.refl _) fun b hb => absurd rfl hb⟩⟩
    | tupk ds =>
      refine .inr (.inl (key _ fun y ρ1 v Hf1 H1 fp1 fd e G1 r1 F1 o1 w1 => ?_))
      rw [ee] at e; cases e
      rw [ex] at w1
      obtain ⟨Hf2, G2, r2, F2⟩ := frz G1 r1 F1 o1
      rw [ex] at r2
      cases r2 with
      | tupk h r ho hf =>
        exact ⟨_, rfl, ⟨_, sqT_sub G2.sub h⟩, w1 _ Hf2 H1 fp1 _ G2 F2 itTup ⟨h, (r.nos ho).to (Same.refl _) fun b hb => absurd rfl hb⟩⟩
    | str z =>
      refine .inr (.inr (key _ fun y ρ1 v Hf1 H1 fp1 fd e G1 r1 F1 o1 w1 => ?_))
      rw [ee] at e; cases e
      rw [ex] at w1 r1
      obtain ⟨rfl, _⟩ := r1.isStr
      exact ⟨z, rfl, w1 _ Hf1 H1 fp1 _ G1 F1 itStr trivial⟩
    | _ => exact False.elim (by unfold mItems M.bind at w; rw [ee] at w; dsimp only at w; rw [ex] at w; exact w)
/-! ranges -/
def rangeD (lo : Int) (n : Nat) : List D := (List.range n).map fun i => .int (lo + (i : Nat))
def rangeC (lo c : Int) (n : Nat) : List D := (List.range n).map fun i => .int (lo + (i : Nat) * c)
theorem itRange {K : PySem.W.Frag} {lo : Int} {n : Nat} : ItOk K cl (Itr lo n) (rangeD lo n) (fun _ => True) where
  mono := fun _ _ => trivial
  go := fun i Hf H hi _ _ => (walk_range (lo := lo) (n := n)).goes i H (by simpa [rangeD] using hi) trivial
  stop := fun Hf H _ _ => by
    have := (walk_range (lo := lo) (n := n)).stops H trivial
    rwa [show (rangeD lo n).length = n by simp [rangeD]]
  yld := fun i d Hf H x H' hd _ _ y => by
    have hi : i < n := by
      have := (List.getElem?_eq_some_iff.mp hd).1
      simpa [rangeD] using this
    obtain ⟨rfl, rfl⟩ := (walk_range (lo := lo) (n := n)).yields i H x H' hi trivial y
    simp [rangeD, hi] at hd
    subst hd
    exact .inl ⟨rfl, r_int _⟩
theorem itRangeC {K : PySem.W.Frag} {lo c : Int} {n : Nat} : ItOk K cl (Itc lo c n) (rangeC lo c n) (fun _ => True) where
  mono := fun _ _ => trivial
  go := fun i Hf H hi _ _ => (walk_rangeC (lo := lo) (c := c) (n := n)).goes i H (by simpa [rangeC] using hi) trivial
  stop := fun Hf H _ _ => by
    have := (walk_rangeC (lo := lo) (c := c) (n := n)).stops H trivial
    rwa [show (rangeC lo c n).length = n by simp [rangeC]]
  yld := fun i d Hf H x H' hd _ _ y => by
    have hi : i < n := by
      have := (List.getElem?_eq_some_iff.mp hd).1
      simpa [rangeC] using this
    obtain ⟨rfl, rfl⟩ := (walk_rangeC (lo := lo) (c := c) (n := n)).yields i H x H' hi trivial y
    simp [rangeC, hi] at hd
    subst hd
    exact .inl ⟨rfl, r_int _⟩
@[irreducible] def rgOk (i : Int) : Bool := decide (-(2 ^ 62) ≤ i ∧ i < 2 ^ 62)
theorem rgOk_ok {i : Int} (h : rgOk i = true) : -(2 ^ 62) ≤ i ∧ i < 2 ^ 62 := by unfold rgOk at h; exact of_decide_eq_true h
theorem rgOk_of {i : Int} (h : -(2 ^ 62) ≤ i ∧ i < 2 ^ 62) : rgOk i = true := by unfold rgOk; exact decide_eq_true h
def mRange1 (fs : M (List DO)) : M (List D) := M.bind fs fun xs ρ => match xs with
  | [x] => (match x.1 with | .int j => if rgOk j = true then .ok (rangeD 0 j.toNat) ρ else .stuck | _ => .stuck)
  | _ => .stuck
def mRange2 (fs : M (List DO)) : M (List D) := M.bind fs fun xs ρ => match xs with
  | [x, y] => (match x.1, y.1 with | .int i, .int j => if rgOk i = true ∧ rgOk j = true then .ok (rangeD i (j - i).toNat) ρ else .stuck | _, _ => .stuck)
  | _ => .stuck
/-- range(i, j, -1) -/
def mRange3 (fs : M (List DO)) : M (List D) := M.bind fs fun xs ρ => match xs with
  | [x, y, z] => (match x.1, y.1, z.1 with | .int i, .int j, .int c => if rgOk i = true ∧ rgOk j = true ∧ c = -1 then .ok (rangeC i (-1) (i - j).toNat) ρ else .stuck | _, _, _ => .stuck)
  | _ => .stuck
theorem qi_range1 {tg : Expr} {pp : Pos} (hg : Gl X "range") (hm : X.mg "range" = none) (ha : QA X cl C W p o [a] fs) (hs : starEach [a] X.env = [(false, eval a X.env)] := by rfl) : QI X cl C W tg (.Call (.Name "range" pp) [a] [] pos) (mRange1 fs) := by
  obtain ⟨t, pe, dn⟩ := ha
  refine ⟨_, pi_range1 hg hm pe hs, fun σ H R ρ Hf fp G w => dn.bind G w fun xs ρ1 vs Hf1 H1 fp1 fd G1 r1 F1 c1 q1 w1 => ?_⟩
  split at w1
  · rename_i x
    cases r1 with
    | cons r rs hf =>
      cases rs
      split at w1
      · rename_i j ej
        split at w1
        · rename_i h
          dsimp only at r
          rw [ej] at r
          obtain ⟨rfl, _⟩ := r.isInt
          have h := rgOk_ok h
          exact ⟨j, rfl, h.1, h.2, w1 _ Hf1 H1 fp1 _ G1 F1 itRange trivial⟩
        · exact False.elim w1
      · exact False.elim w1
  · exact False.elim w1
theorem qi_range2 {b tg : Expr} {pp : Pos} (hg : Gl X "range") (hm : X.mg "range" = none) (ha : QA X cl C W p o [a, b] fs) (hs : starEach [a, b] X.env = [(false, eval a X.env), (false, eval b X.env)] := by rfl) (hs2 : starEach [b] X.env = [(false, eval b X.env)] := by rfl) : QI X cl C W tg (.Call (.Name "range" pp) [a, b] [] pos) (mRange2 fs) := by
  obtain ⟨t, pe, dn⟩ := ha
  refine ⟨_, pi_range2 hg hm pe hs hs2, fun σ H R ρ Hf fp G w => dn.bind G w fun xs ρ1 vs Hf1 H1 fp1 fd G1 r1 F1 c1 q1 w1 => ?_⟩
  split at w1
  · rename_i x y
    cases r1 with
    | cons r rs hf =>
      cases rs with
      | cons r' rs' hf' =>
        cases rs'
        split at w1
        · rename_i i j ei ej
          split at w1
          · rename_i h
            dsimp only at r r'
            rw [ei] at r; rw [ej] at r'
            obtain ⟨rfl, _⟩ := r.isInt
            obtain ⟨rfl, _⟩ := r'.isInt
            have h1 := rgOk_ok h.1
            have h2 := rgOk_ok h.2
            exact ⟨i, j, rfl, ⟨h1.1, h1.2, h2.1, h2.2⟩, w1 _ Hf1 H1 fp1 _ G1 F1 itRange trivial⟩
          · exact False.elim w1
        · exact False.elim w1
  · exact False.elim w1
theorem qi_range3 {b c tg : Expr} {pp : Pos} (hg : Gl X "range") (hm : X.mg "range" = none) (ha : QA X cl C W p o [a, b, c] fs) (hs : starEach [a, b, c] X.env = (false, eval a X.env) :: starEach [b, c] X.env := by rfl) (hpl : (backTo pos (starEach [b, c] X.env)).any (·.1) = false := by rfl) : QI X cl C W tg (.Call (.Name "range" pp) [a, b, c] [] pos) (mRange3 fs) := by
  obtain ⟨t, pe, dn⟩ := ha
  refine ⟨_, pi_range3 hg hm pe hs hpl, fun σ H R ρ Hf fp G w => dn.bind G w fun xs ρ1 vs Hf1 H1 fp1 fd G1 r1 F1 c1 q1 w1 => ?_⟩
  split at w1
  · rename_i x y z
    cases r1 with
    | cons r rs hf =>
      cases rs with
      | cons r' rs' hf' =>
        cases rs' with
        | cons r'' rs'' hf'' =>
          cases rs''
          split at w1
          · rename_i i j k ei ej ek
            split at w1
            · rename_i h
              dsimp only at r r' r''
              rw [ei] at r; rw [ej] at r'; rw [ek] at r''
              obtain ⟨rfl, _⟩ := r.isInt
              obtain ⟨rfl, _⟩ := r'.isInt
              obtain ⟨rfl, _⟩ := r''.isInt
              obtain ⟨h1, h2, rfl⟩ := h
              have h1 := rgOk_ok h1
              have h2 := rgOk_ok h2
              exact ⟨i, j, -1, _, rfl, RgC.neg h1.1 h1.2 h2.1 h2.2, w1 _ Hf1 H1 fp1 _ G1 F1 itRangeC trivial⟩
            · exact False.elim w1
          · exact False.elim w1
  · exact False.elim w1
/-! ### for -/
def forGo (tg : Tgt) (g : M Fl) : List D → M Fl
  | [], ρ => .ok .nx ρ
  | d :: ds, ρ => match tg d ρ with
    | none => .stuck
    | some ρ1 => match g ρ1 with
      | .ok .nx ρ2 => forGo tg g ds ρ2
      | .ok .ct ρ2 => forGo tg g ds ρ2
      | .ok .bk ρ2 => .ok .nx ρ2
      | r => r
def mFor (fi : M (List D)) (tg : Tgt) (g : M Fl) : M Fl := M.bind fi fun ds => forGo tg g ds
theorem qs_for {tg it : Expr} {ts : List Nat} {tt : Tgt} {fi : M (List D)} {body : List Stmt} {g : M Fl} (hpo : PassesOwn (model X.prog X.w) X.A X.env X.xe) (hi : QI X cl C W tg it fi) (hg : QG X cl C ts tg tt) (hb : QSs X cl C W body g) (hc : X.calm = true := by rfl)
    (hs : ∀ x, foldedSetIterable it X.env x = pure x := by intro _; rfl) : QS X cl C W (.For tg it body [] pos) (mFor fi tt g) := by
  obtain ⟨wi, pi, di⟩ := hi
  obtain ⟨gg, pg, dg⟩ := hg
  obtain ⟨u, pu, du⟩ := hb
  refine ⟨_, ps_for hpo hc pi pg pu hs, fun σ H D ρ Hf fp G w => ?_⟩
  refine di σ H _ ρ Hf fp G ?_
  unfold mFor M.bind at w
  cases ef : fi ρ with
  | stuck => rw [ef] at w; exact w
  | err c fs ρ1 => rw [ef] at w; exact w σ
  | ok ds ρ1 =>
    rw [ef] at w
    intro J Hf1 H1 fp1 S G1 F1 IO hS
    refine ⟨fun i m σ' H' => i ≤ ds.length ∧ m = ds.length - i ∧ ∃ ρ' Hf' fp', Good X.K cl C Hf' H' σ' ρ' fp' ∧ Fr Hf H fp Hf' H' fp' ∧ S Hf' ∧ WzS X.K cl C W Hf H fp (forGo tt g (ds.drop i) ρ') (PSk X.K cl C Hf H fp D), ⟨_, Nat.zero_le _, rfl, ρ1, Hf1, fp1, G1, F1, hS, w⟩, ?_⟩
    rintro i m σ' H' ⟨hi, hm, ρ', Hf', fp', G', F', hS', w'⟩
    by_cases hlt : i < ds.length
    · refine .inr ⟨IO.go i Hf' H' hlt hS' G'.sub, fun σ'' H'' => ∃ ρ'' Hf'' fp'', Good X.K cl C Hf'' H'' σ'' ρ'' fp'' ∧ Fr Hf H fp Hf'' H'' fp'' ∧ S Hf'' ∧ WzS X.K cl C W Hf H fp (forGo tt g (ds.drop (i + 1)) ρ'') (PSk X.K cl C Hf H fp D), fun σ'' H'' h => ⟨ds.length - (i + 1), by omega, hlt, rfl, h⟩, fun x H2 y => ?_⟩
      have hd : ds[i]? = some ds[i] := List.getElem?_eq_getElem hlt
      obtain ⟨Hf2, G2, F2, r2, _⟩ := IO.next hd hS' G' y
      rw [List.drop_eq_getElem_cons hlt] at w'
      unfold forGo at w'
      cases et : tt ds[i] ρ' with
      | none => rw [et] at w'; exact False.elim w'
      | some ρ2 =>
        rw [et] at w'
        refine dg x ds[i] σ' H2 _ ρ' Hf2 fp' Fp.z G2 r2 ρ2 et fun σ3 fp3 G3 l3 _ => ?_
        have F3 : Fr Hf H fp Hf2 H2 fp3 := (F'.trans F2).less l3
        refine du σ3 H2 _ ρ2 Hf2 fp3 G3 ?_
        dsimp only at w'
        cases eg : g ρ2 with
        | stuck => rw [eg] at w'; exact w'
        | err c fs ρ3 => rw [eg] at w'; exact fun σ4 => WzE.past (w' σ4) F3
        | ok a ρ3 =>
          rw [eg] at w'
          cases a with
          | nx => exact fun σ4 Hf4 H4 fp4 G4 F4 => ⟨ρ3, Hf4, fp4, G4, F3.trans F4, IO.mono (F2.sub.trans F4.sub) hS', w'⟩
          | ct => exact fun σ4 Hf4 H4 fp4 G4 F4 => ⟨ρ3, Hf4, fp4, G4, F3.trans F4, IO.mono (F2.sub.trans F4.sub) hS', w'⟩
          | bk => exact fun σ4 Hf4 H4 fp4 G4 F4 => w' σ4 Hf4 H4 fp4 G4 (F3.trans F4)
          | rt z => exact PSk.past (a := .rt z) w' F3
    · have he : i = ds.length := by omega
      subst he
      rw [List.drop_length] at w'
      exact .inl ⟨IO.stop Hf' H' hS' G'.sub, w' σ' Hf' H' fp' G' F'⟩
end
end DL
/-! Comprehensions. -/
namespace DL
open PySem PySem.Spec L2
/-! ### wiping -/
def wipeE (ρ : Env) : List Nat → Env
  | [] => ρ
  | v :: vs => (wipeE ρ vs).set v none
def restE (ρ0 ρ : Env) : List Nat → Env
  | [] => ρ
  | v :: vs => match ρ0[v]? with
    | some (some (d, .no)) => (restE ρ0 ρ vs).set v (some (d, .no))
    | _ => restE ρ0 ρ vs
theorem wipe_get (σ : L2.St) (i : Nat) : ∀ vs : List Nat, (wipe σ vs)[i]? = if i ∈ vs then (σ[i]?).map (fun _ => none) else σ[i]?
  | [] => by simp [wipe]
  | v :: vs => by
    show ((wipe σ vs).set v none)[i]? = _
    rw [List.getElem?_set, wipe_length, wipe_get σ i vs]
    by_cases e : v = i
    · subst e
      by_cases h : v < σ.length
      · simp [h]
      · simp [h]
    · rw [if_neg e]
      have e' : ¬ i = v := fun h => e h.symm
      by_cases h : i ∈ vs
      · simp [h]
      · simp [h, e']
theorem wipe_idem (σ : L2.St) (vs : List Nat) : wipe (wipe σ vs) vs = wipe σ vs := by
  apply List.ext_getElem?
  intro i
  rw [wipe_get, wipe_get]
  by_cases h : i ∈ vs
  · simp only [if_pos h, Option.map_map]; rfl
  · simp only [if_neg h]
theorem wipeE_len (ρ : Env) : ∀ vs, (wipeE ρ vs).length = ρ.length
  | [] => rfl
  | v :: vs => by show ((wipeE ρ vs).set v none).length = _; rw [List.length_set, wipeE_len ρ vs]
theorem wipeE_get (ρ : Env) (i : Nat) : ∀ vs : List Nat, i ∈ vs → i < ρ.length → (wipeE ρ vs)[i]? = some none
  | [], h, _ => by cases h
  | v :: vs, h, hl => by
    show ((wipeE ρ vs).set v none)[i]? = _
    rw [List.getElem?_set, wipeE_len]
    by_cases e : v = i
    · simp [e, hl]
    · rw [if_neg e]
      exact wipeE_get ρ i vs ((List.mem_cons.mp h).resolve_left fun q => e q.symm) hl
section
variable {K : PySem.W.Frag} {cl : String → Addr} {C : Pc} {W : WX} {Hf H Hf1 H1 : Hp} {σ : L2.St} {ρ ρ1 : Env} {fp fp1 f g : Fp}
theorem EnvR.wipe (h : EnvR K cl Hf H σ ρ f) : ∀ vs : List Nat, ∃ k, EnvR K cl Hf H (L2.wipe σ vs) (wipeE ρ vs) k ∧ ∀ b, k b ≤ f b
  | [] => ⟨f, h, fun b => Nat.le_refl _⟩
  | v :: vs => by
    obtain ⟨k, e, l⟩ := EnvR.wipe h vs
    obtain ⟨k', e', l'⟩ := e.drop v
    by_cases hv : v < ρ.length
    · exact ⟨k', e'.any (i := v) (by simp [wipeE_len, hv]) none, fun b => Nat.le_trans (l' b) (l b)⟩
    · refine ⟨k', ?_, fun b => Nat.le_trans (l' b) (l b)⟩
      have h2 := h.len
      show EnvR K cl Hf H ((L2.wipe σ vs).set v none) ((wipeE ρ vs).set v none) k'
      rw [List.set_eq_of_length_le (by rw [wipe_length, h2]; omega)]
      exact e'
theorem Good.wipe {vs : List Nat} (G : Good K cl C Hf H σ ρ fp) (hp : (C.pin.all fun p => !(vs.contains p.1)) = true) : ∃ fp', Good K cl C Hf H (L2.wipe σ vs) (wipeE ρ vs) fp' ∧ ∀ b, fp' b ≤ fp b := by
  obtain ⟨k, e, l⟩ := G.env.wipe vs
  refine ⟨k, ⟨G.sub, e, fun b => Nat.le_trans (l b) (G.nd b), fun p m => ?_, G.fac⟩, l⟩
  have := List.all_eq_true.mp hp p m
  rw [wipe_get, if_neg (by simpa using this)]
  exact G.pin p m
theorem EnvR.unwipe : ∀ {vs us : List Nat}, EnvR K cl Hf H (L2.wipe σ vs) ρ f → (∀ i ∈ vs, i < ρ.length → ρ[i]? = some none) → EnvR K cl Hf H σ ρ f
  | [], us, h, _ => h
  | v :: vs, us, h, z => by
    have hl := h.len
    rw [wipe_length] at hl
    refine EnvR.unwipe (us := us) (vs := vs) ?_ fun i m => z i (List.mem_cons_of_mem _ m)
    by_cases hv : v < ρ.length
    · have hx : v < (L2.wipe σ vs).length := by rw [wipe_length]; omega
      have := EnvR.any h (z v (List.mem_cons_self ..) hv) (L2.wipe σ vs)[v]
      show EnvR K cl Hf H (L2.wipe σ vs) ρ f
      have e2 : (L2.wipe σ (v :: vs)).set v ((L2.wipe σ vs)[v]) = L2.wipe σ vs := by
        show ((L2.wipe σ vs).set v none).set v _ = _
        rw [List.set_set, List.set_getElem_self]
      rw [e2] at this
      exact this
    · have e : L2.wipe σ (v :: vs) = L2.wipe σ vs := List.set_eq_of_length_le (by rw [wipe_length]; omega)
      rw [e] at h
      exact h
theorem Good.unwipe {vs : List Nat} (G0 : Good K cl C Hf1 H1 σ ρ1 fp1) (G : Good K cl C Hf H (L2.wipe σ vs) ρ fp) (s : Same Hf1 Hf) (hp : (C.pin.all fun p => !(vs.contains p.1)) = true) :
    ∃ fp', Good K cl C Hf H σ (restE ρ1 (wipeE ρ vs) vs) fp' ∧ ∀ b, fp' b ≤ fp b := by
  obtain ⟨k, Gw, l⟩ := G.wipe hp
  rw [wipe_idem] at Gw
  have e := EnvR.unwipe (us := []) Gw.env fun i m hl => wipeE_get ρ i vs m (by rw [wipeE_len] at hl; exact hl)
  have G2 : Good K cl C Hf H σ (wipeE ρ vs) k := ⟨G.sub, e, Gw.nd, G0.pin, G.fac⟩
  have go : ∀ us : List Nat, (∀ i ∈ us, i ∈ vs) → ∃ fp', Good K cl C Hf H σ (restE ρ1 (wipeE ρ vs) us) fp' ∧ ∀ b, fp' b ≤ k b := by
    intro us
    induction us with
    | nil => exact fun _ => ⟨k, G2, fun b => Nat.le_refl _⟩
    | cons u us ih =>
      intro hu
      obtain ⟨fp', G3, l3⟩ := ih fun i m => hu i (List.mem_cons_of_mem _ m)
      unfold restE
      split
      · rename_i d hd
        obtain ⟨v, g, kk, h1, h2, h3, h4⟩ := G0.env.at hd
        have z := h2.zero_of_no
        have r : R1 K cl Hf H v d .no g := h2.to s fun b hb => absurd (z b) hb
        obtain ⟨fp4, G4, l4⟩ := G3.set (i := u) r (fun b => by rw [z]; have := G3.nd b; omega) (List.all_eq_true.mpr fun p m => by
          have := List.all_eq_true.mp hp p m
          have q := hu u (List.mem_cons_self ..)
          simp only [bne_iff_ne]
          intro e
          rw [e] at this
          simp [q] at this)
        obtain ⟨hb, ev⟩ := List.getElem?_eq_some_iff.mp h1
        have es : σ.set u (some v) = σ := by rw [← ev]; exact List.set_getElem_self hb
        rw [es] at G4
        exact ⟨fp4, G4, fun b => by have := l4 b; have := l3 b; have := z b; omega⟩
      · exact ⟨fp', G3, l3⟩
  obtain ⟨fp', G3, l3⟩ := go vs fun _ m => m
  exact ⟨fp', G3, fun b => Nat.le_trans (l3 b) (l b)⟩
end
/-! ### tests of a block -/
structure QTs (X : Cx) (cl : String → Addr) (C : Pc) (W : WX) (es : List Expr) (f : M Bool) : Prop where
  ex : ∃ t, PTs X es t ∧ DenT X.K cl C W false t f
def ttsStar := @ttStar
section
variable {X : Cx} {cl : String → Addr} {C : Pc} {W : WX} {p p1 p2 o o1 o2 : Bool} {e a c : Expr} {es : List Expr} {fe fa : M DO} {ft : M Bool} {fs : M (List DO)} {pos : Pos}
theorem qt_pp (h : QT X cl C W p e ft) : QT X cl C W false e ft := by
  obtain ⟨t, pe, dn⟩ := h
  exact ⟨t, pe, fun σ H Q ρ Hf fp G w => dn σ H Q ρ Hf fp G (w.imp fun x ρ' _ h => fun Hf' H' fp' a b _ => h Hf' H' fp' a b fun e => nomatch e)⟩
theorem qts_nil : QTs X cl C W [] (M.ret true) := ⟨_, pts_nil, fun σ H Q ρ Hf fp G w => w Hf H fp G Fr.refl fun _ => Quiet.refl fun b hb => (G.live b hb).2⟩
theorem qts_one (h : QT X cl C W p e ft) : QTs X cl C W [e] ft := by
  obtain ⟨t, pe, dn⟩ := qt_pp h
  exact ⟨_, pts_one pe, dn⟩
theorem QTs.star (h : QTs X cl C W es ft) : PTs X es (ttStar X.K cl C W false ft) := by
  obtain ⟨t, pe, dn⟩ := h
  exact ⟨fun pins s σ H Q I ⟨ρ, Hf, fp, G, w⟩ => pe.run pins s σ H Q I (dn σ H Q ρ Hf fp G w)⟩
end
/-! ### the loop -/
def lcGo (vs : List Nat) (tg : Tgt) (t : M Bool) (f : M DO) : List D → Env → Option (List D × Env)
  | [], ρ => some ([], ρ)
  | d :: ds, ρ => match tg d ρ with
    | none => none
    | some ρ1 => match t ρ1 with
      | .ok false ρ2 => lcGo vs tg t f ds (wipeE ρ2 vs)
      | .ok true ρ2 => (match f ρ2 with
        | .ok (x, .no) ρ3 => (lcGo vs tg t f ds (wipeE ρ3 vs)).map fun r => (x :: r.1, r.2)
        | _ => none)
      | _ => none
def mLc (vs : List Nat) (fi : M (List D)) (tg : Tgt) (t : M Bool) (f : M DO) : M DO := M.bind fi fun ds ρ => if ds.length < sizeLine then (match lcGo vs tg t f ds (wipeE ρ vs) with
  | some r => .ok (.lst r.1, .lst .no) (restE ρ (wipeE r.2 vs) vs)
  | none => .stuck) else .stuck
abbrev W0 : WX := fun _ _ _ _ => False
section
variable {X : Cx} {cl : String → Addr} {C : Pc} {W : WX} {p p1 p2 o o1 o2 : Bool} {e a c : Expr} {es : List Expr} {fe fa : M DO} {ft : M Bool} {fs : M (List DO)} {pos : Pos}
theorem lc_den {K : PySem.W.Frag} {wi : TI} {fi : M (List D)} {vs ts : List Nat} {tt : Tgt} (di : DenI K cl C W wi fi) (hts : (ts.all fun i => vs.contains i) = true) (hp : (C.pin.all fun p => !(vs.contains p.1)) = true) :
    Den K cl C W false true (tLc wi (gStar K cl C ts tt) (ttStar K cl C W0 false ft) (tStar K cl C W0 p true fe) vs) (mLc vs fi tt ft fe) := by
  intro σ H Q ρ Hf fp G w
  refine di σ H _ ρ Hf fp G ?_
  unfold mLc M.bind at w
  cases ef : fi ρ with
  | stuck => rw [ef] at w; exact w
  | err c fs ρ1 => rw [ef] at w; exact w
  | ok ds ρ1 =>
    rw [ef] at w
    intro J Hf1 H1 fp1 S G1 F1 IO hS D hD
    dsimp only at w
    split at w
    · rename_i hsz
      cases el : lcGo vs tt ft fe ds (wipeE ρ1 vs) with
      | none => rw [el] at w; exact False.elim w
      | some r =>
        rw [el] at w
        dsimp only at w
        obtain ⟨fpw, Gw, lw⟩ := G1.wipe hp
        have hDf : Hf1 D = none := G1.sub.free hD
        have hDp : fpw D = 0 := by
          by_cases z : fpw D = 0
          · exact z
          · obtain ⟨⟨o, ho⟩, _⟩ := Gw.live D z; rw [hD] at ho; cases ho
        refine ⟨fun i m H' => i ≤ ds.length ∧ m = ds.length - i ∧ ∃ ρ' Hf' fp' va da rest, Good K cl C Hf' H' (L2.wipe σ vs) ρ' fp' ∧ Fr Hf H fp Hf' H' fp' ∧ S Hf' ∧ Same Hf1 Hf' ∧ H' D = some (.lst va) ∧ Hf' D = none ∧ fp' D = 0 ∧
          Rs K cl Hf' Hf' va da (List.replicate da.length .no) Fp.z ∧ da.length ≤ i ∧ lcGo vs tt ft fe (ds.drop i) ρ' = some rest ∧ r = (da ++ rest.1, rest.2),
          ⟨_, Nat.zero_le _, rfl, wipeE ρ1 vs, Hf1, fpw, [], [], r, Gw.alloc hD _, ((F1.trans (Fr.alloc hD _)).less lw), hS, Same.refl _, upd_same, hDf, hDp, .nil fun _ => rfl, Nat.le_refl _, el, rfl⟩, ?_⟩
        rintro i m H' ⟨hi, hm, ρ', Hf', fp', va, da, rest, G', F', hS', s', hD', hDf', hDp', ra, la, eg, er⟩
        by_cases hlt : i < ds.length
        · refine .inr ⟨IO.go i Hf' H' hlt hS' G'.sub, fun H'' => ∃ ρ'' Hf'' fp'' va da rest, Good K cl C Hf'' H'' (L2.wipe σ vs) ρ'' fp'' ∧ Fr Hf H fp Hf'' H'' fp'' ∧ S Hf'' ∧ Same Hf1 Hf'' ∧ H'' D = some (.lst va) ∧ Hf'' D = none ∧ fp'' D = 0 ∧
            Rs K cl Hf'' Hf'' va da (List.replicate da.length .no) Fp.z ∧ da.length ≤ i + 1 ∧ lcGo vs tt ft fe (ds.drop (i + 1)) ρ'' = some rest ∧ r = (da ++ rest.1, rest.2), fun H'' h => ⟨ds.length - (i + 1), by omega, hlt, rfl, h⟩, fun x H2 y => ?_⟩
          have hd : ds[i]? = some ds[i] := List.getElem?_eq_getElem hlt
          obtain ⟨Hf2, G2, F2, r2, how⟩ := IO.next hd hS' G' y
          have stay : ∀ {Ha Hb : Hp} {Hfa Hfb : Hp} {fa fb : Fp} {ov : HO}, Fr Hfa Ha fa Hfb Hb fb → Ha D = some ov → Hfa D = none → fa D = 0 → Hb D = some ov ∧ Hfb D = none ∧ fb D = 0 := fun {Ha Hb Hfa Hfb fa fb ov} F h1 h2 h3 => by
            refine ⟨F.keep D _ h1 h3, ?_, ?_⟩
            · cases e : Hfb D with
              | none => rfl
              | some u =>
                rcases F.newf D (by rw [e]; exact fun z => nomatch z) with q | q | q
                · exact absurd h2 q
                · exact absurd h3 q
                · rw [h1] at q; cases q
            · by_cases z : fb D = 0
              · exact z
              · rcases F.new D z with q | q
                · exact absurd h3 q
                · rw [h1] at q; cases q
          obtain ⟨d2, df2, dp2⟩ := stay F2 hD' hDf' hDp'
          rw [List.drop_eq_getElem_cons hlt] at eg
          unfold lcGo at eg
          cases et : tt ds[i] ρ' with
          | none => rw [et] at eg; cases eg
          | some ρ2 =>
            rw [et] at eg
            dsimp only at eg
            refine ⟨ds[i], ρ', Hf2, fp', Fp.z, ρ2, G2, r2, et, fun σ3 fp3 G3 l3 w3 => ?_⟩
            have hw : L2.wipe σ3 vs = L2.wipe σ vs := (w3 vs fun i m => by simpa using List.all_eq_true.mp hts i m).trans (wipe_idem σ vs)
            refine ⟨hw, ?_⟩
            have F3 : Fr Hf H fp Hf2 H2 fp3 := (F'.trans F2).less l3
            have dp3 : fp3 D = 0 := by have := l3 D; omega
            -- the end of a turn
            have next : ∀ {ρ4 : Env} {Hf4 H4 : Hp} {fp4 : Fp}, Good K cl C Hf4 H4 σ3 ρ4 fp4 → ∃ fp5, Good K cl C Hf4 H4 (L2.wipe σ vs) (wipeE ρ4 vs) fp5 ∧ ∀ b, fp5 b ≤ fp4 b := fun {ρ4 Hf4 H4 fp4} G4 => by
              obtain ⟨k, g, l⟩ := G4.wipe hp
              rw [hw] at g
              exact ⟨k, g, l⟩
            refine ⟨ρ2, Hf2, fp3, G3, ?_⟩
            cases eb : ft ρ2 with
            | stuck => rw [eb] at eg; cases eg
            | err c fs ρ3 => rw [eb] at eg; cases eg
            | ok b ρ3 =>
              rw [eb] at eg
              intro Hf4 H4 fp4 G4 F4 _
              obtain ⟨d4, df4, dp4⟩ := stay F4 d2 df2 dp3
              cases b with
              | false =>
                rw [if_neg Bool.false_ne_true]
                dsimp only at eg
                obtain ⟨k, g, l⟩ := next G4
                exact ⟨wipeE ρ3 vs, Hf4, k, va, da, rest, g, (F3.trans F4).less l, IO.mono (F2.sub.trans F4.sub) hS', s'.trans (F2.sub.trans F4.sub), d4, df4, by have := l D; omega, ra.to (F2.sub.trans F4.sub) (fun b hb => absurd rfl hb), by omega, eg, er⟩
              | true =>
                rw [if_pos rfl]
                dsimp only at eg
                refine ⟨ρ3, Hf4, fp4, G4, ?_⟩
                cases ev : fe ρ3 with
                | stuck => rw [ev] at eg; cases eg
                | err c fs ρ5 => rw [ev] at eg; cases eg
                | ok y ρ5 =>
                  rw [ev] at eg
                  obtain ⟨yd, yo⟩ := y
                  cases yo with
                  | no =>
                    dsimp only at eg
                    intro v Hf5 H5 fp5 fd G5 r5 F5 _ _
                    obtain ⟨d5, df5, dp5⟩ := stay F5 d4 df4 dp4
                    cases eq : lcGo vs tt ft fe (ds.drop (i + 1)) (wipeE ρ5 vs) with
                    | none => rw [eq] at eg; cases eg
                    | some q =>
                      rw [eq] at eg
                      cases eg
                      have sub5 := F2.sub.trans (F4.sub.trans F5.sub)
                      have lva : va.length = da.length := ra.len.1
                      refine ⟨va, d5, by omega, ?_⟩
                      -- D takes the new item
                      have hu : Good K cl C Hf5 (upd H5 D (.lst (va ++ [v]))) σ3 ρ5 fp5 := ⟨fun b o h => by
                        by_cases z : b = D
                        · rw [z, df5] at h; cases h
                        · rw [upd_ne z]; exact G5.sub b o h, G5.env.to (Same.refl _) fun b hb => ⟨upd_ne fun z => hb (by rw [z]; exact dp5), (G5.live b hb).2⟩, G5.nd, G5.pin, G5.fac⟩
                      obtain ⟨k, g, l⟩ := next hu
                      have Fu : Fr Hf H fp Hf5 (upd H5 D (.lst (va ++ [v]))) k := by
                        have F5' := ((F3.trans F4).trans F5).less l
                        have hDn : H D = none ∨ fp D ≠ 0 := by
                          cases z : H D with
                          | none => exact .inl rfl
                          | some u =>
                            refine .inr fun z2 => ?_
                            have := F1.keep D u z z2
                            rw [hD] at this; cases this
                        exact ⟨F5'.sub, fun b o h z => by
                          by_cases zb : b = D
                          · subst zb
                            rcases hDn with q | q
                            · rw [h] at q; cases q
                            · exact absurd z q
                          · rw [upd_ne zb]; exact F5'.keep b o h z, fun b h => by
                          by_cases zb : b = D
                          · subst zb; rw [upd_same] at h; cases h
                          · rw [upd_ne zb] at h; exact F5'.there b h, F5'.new, F5'.newf⟩
                      refine ⟨wipeE ρ5 vs, Hf5, k, va ++ [v], da ++ [yd], q, g, Fu, IO.mono sub5 hS', s'.trans sub5, upd_same, df5, by have := l D; omega, ?_, by simp; omega, eq, ?_⟩
                      · have rv : R1 K cl Hf5 Hf5 v yd .no fd := r5.to (Same.refl _) fun b hb => absurd (r5.zero_of_no b) hb
                        have := (ra.to (H' := Hf5) sub5 fun b hb => absurd rfl hb).append rv.one
                        rw [show (da ++ [yd]).length = da.length + 1 by simp, List.replicate_succ']
                        exact this.fp fun b => by simp [Fp.z, rv.zero_of_no b]
                      · rw [er]; simp
                  | lst c => dsimp only at eg; cases eg
                  | obj c => dsimp only at eg; cases eg
        · have he : i = ds.length := by omega
          subst he
          rw [List.drop_length] at eg
          cases eg
          refine .inl ⟨IO.stop Hf' H' hS' G'.sub, ?_⟩
          rw [er] at w
          dsimp only at w
          rw [List.append_nil] at w
          obtain ⟨k, g, l⟩ := G1.unwipe G' s' hp
          have dd : ∀ b, ((if b = D then 1 else 0) + Fp.z b) + k b ≤ 1 := fun b => by
            by_cases z : b = D
            · subst z; have := l b; simp [Fp.z]; omega
            · rw [if_neg z]; have := g.nd b; simp [Fp.z]; omega
          refine w (.ref D) Hf' H' k _ g (.lstO hD' hDf' (ra.to (Same.refl _) fun b hb => absurd rfl hb) mem_rep fun b => rfl) (F'.less l) (fun _ => ⟨dd, fun b hb => ?_⟩) fun e => nomatch e
          have zb : b = D := by
            by_cases z : b = D
            · exact z
            · simp [z, Fp.z] at hb
          subst zb
          cases z : H b with
          | none => exact .inr rfl
          | some u =>
            refine .inl fun z2 => ?_
            have := F1.keep b u z z2
            rw [hD] at this; cases this
    · exact False.elim w
theorem qx_lc {elt tg iter : Expr} {ifs : List Expr} {scope : Scope} {own : List (Str × Nat)} {ts : List Nat} {tt : Tgt} {fi : M (List D)} (hN : X.N.Nodup) (hi : QI X cl C W tg iter fi) (ok : BlkOk X.N X.env.scope scope own)
    (hg : ∀ (s : Shared) (H : Hp) (Ca : Addr) (cc : List (Str × Addr)) (fp : List Addr), QG (X.blk s H scope (compEnvC scope cc Ca X.env) fp) cl C ts tg tt)
    (ht : ∀ (s : Shared) (H : Hp) (Ca : Addr) (cc : List (Str × Addr)) (fp : List Addr), QTs (X.blk s H scope (compEnvC scope cc Ca X.env) fp) cl C W0 ifs ft)
    (he : ∀ (s : Shared) (H : Hp) (Ca : Addr) (cc : List (Str × Addr)) (fp : List Addr), QX (X.blk s H scope (compEnvC scope cc Ca X.env) fp) cl C W0 p true elt fe)
    (hc : X.calm = true := by rfl) (hts : (ts.all fun i => (own.map (·.2)).contains i) = true := by rfl) (hp : (C.pin.all fun p => !((own.map (·.2)).contains p.1)) = true := by rfl) (hs : ∀ x, foldedSetIterable iter X.env x = pure x := by intro _; rfl) :
    QX X cl C W false true (.ListComp elt [⟨tg, iter, ifs, 0⟩] scope pos) (mLc (own.map (·.2)) fi tt ft fe) := by
  obtain ⟨wi, pi, di⟩ := hi
  exact ⟨_, pe_lc hc hN pi ok (fun s H Ca cc fp => (hg s H Ca cc fp).star) (fun s H Ca cc fp => (ht s H Ca cc fp).star) (fun s H Ca cc fp => (he s H Ca cc fp).star) hs, lc_den di hts hp⟩
/-- x = [..] on one line -/
theorem qs_setLc (i : Nat) {y : Str} {py spos : Pos} {elt tg iter : Expr} {ifs : List Expr} {scope : Scope} {own : List (Str × Nat)} {ts : List Nat} {tt : Tgt} {fi : M (List D)} (hN : X.N.Nodup) (hy : X.N[i]? = some y) (hyl : X.env.scope.names.lookup y = some .local)
    (hsw : swapsWith (.ListComp elt [⟨tg, iter, ifs, 0⟩] scope pos) (some (.Name y py)) spos.line X.env = pure true) (hi : QI X cl C W tg iter fi) (ok : BlkOk X.N X.env.scope scope own)
    (hg : ∀ (s : Shared) (H : Hp) (Ca : Addr) (cc : List (Str × Addr)) (fp : List Addr), QG (X.blk s H scope (compEnvC scope cc Ca X.env) fp) cl C ts tg tt)
    (ht : ∀ (s : Shared) (H : Hp) (Ca : Addr) (cc : List (Str × Addr)) (fp : List Addr), QTs (X.blk s H scope (compEnvC scope cc Ca X.env) fp) cl C W0 ifs ft)
    (he : ∀ (s : Shared) (H : Hp) (Ca : Addr) (cc : List (Str × Addr)) (fp : List Addr), QX (X.blk s H scope (compEnvC scope cc Ca X.env) fp) cl C W0 p true elt fe) (hpi : (C.pin.all fun p => p.1 != i) = true := by rfl)
    (hc : X.calm = true := by rfl) (hts : (ts.all fun i => (own.map (·.2)).contains i) = true := by rfl) (hp : (C.pin.all fun p => !((own.map (·.2)).contains p.1)) = true := by rfl) (hs : ∀ x, foldedSetIterable iter X.env x = pure x := by intro _; rfl) :
    QS X cl C W (.Assign [.Name y py] (.ListComp elt [⟨tg, iter, ifs, 0⟩] scope pos) spos) (mSet i (mLc (own.map (·.2)) fi tt ft fe)) := by
  obtain ⟨wi, pi, di⟩ := hi
  exact ⟨_, ps_setLc hc hN hy hyl hsw pi ok (fun s H Ca cc fp => (hg s H Ca cc fp).star) (fun s H Ca cc fp => (ht s H Ca cc fp).star) (fun s H Ca cc fp => (he s H Ca cc fp).star) hs, denSet (lc_den di hts hp) hpi⟩
end
end DL
/-! Dict comprehensions; enumerate, zip, reversed. -/
namespace DL
open PySem PySem.Spec L2
theorem dput_rel {K : PySem.W.Frag} {cl : String → Addr} {Hf H : Hp} {κ : Type} [DecidableEq κ] {k : κ} {v : V} {d : D} {g : Fp} {kvs : List (κ × V)} {kds : List (κ × D)} {os : List Own} {f : Fp} (hk : kvs.map (·.1) = kds.map (·.1)) (r : Rs K cl Hf H (kvs.map (·.2)) (kds.map (·.2)) os f) (ho : ∀ o ∈ os, o = .no) (rv : R1 K cl Hf H v d .no g) :
    (putK kvs k v).map (·.1) = (dput kds k d).map (·.1) ∧ Rs K cl Hf H ((putK kvs k v).map (·.2)) ((dput kds k d).map (·.2)) (List.replicate (dput kds k d).length .no) Fp.z := by
  have any : ∀ {kvs : List (κ × V)} {kds : List (κ × D)}, kvs.map (·.1) = kds.map (·.1) → (kvs.any fun kv => decide (kv.1 = k)) = (kds.any fun kv => decide (kv.1 = k)) := by
    intro kvs kds h
    have e1 : (kvs.any fun kv => decide (kv.1 = k)) = ((kvs.map (·.1)).any fun x => decide (x = k)) := by rw [List.any_map]; rfl
    have e2 : (kds.any fun kv => decide (kv.1 = k)) = ((kds.map (·.1)).any fun x => decide (x = k)) := by rw [List.any_map]; rfl
    rw [e1, e2, h]
  have mp : ∀ {kvs : List (κ × V)} {kds : List (κ × D)} {os : List Own} {f : Fp}, kvs.map (·.1) = kds.map (·.1) → Rs K cl Hf H (kvs.map (·.2)) (kds.map (·.2)) os f → (∀ o ∈ os, o = .no) →
      (kvs.map (fun kv => if kv.1 = k then (kv.1, v) else kv)).map (·.1) = (kds.map (fun kv => if kv.1 = k then (kv.1, d) else kv)).map (·.1) ∧ Rs K cl Hf H ((kvs.map (fun kv => if kv.1 = k then (kv.1, v) else kv)).map (·.2)) ((kds.map (fun kv => if kv.1 = k then (kv.1, d) else kv)).map (·.2)) (List.replicate kds.length .no) Fp.z := by
    intro kvs
    induction kvs with
    | nil =>
      intro kds os f h r ho
      cases kds with
      | nil => exact ⟨rfl, .nil fun _ => rfl⟩
      | cons _ _ => cases h
    | cons x xs ih =>
      intro kds os f h r ho
      cases kds with
      | nil => cases h
      | cons y ys =>
        simp only [List.map_cons, List.cons.injEq] at h
        cases r with
        | @cons f1 g1 _ _ _ _ _ o os r rs hf =>
          obtain ⟨i1, i2⟩ := ih h.2 rs fun o m => ho o (List.mem_cons_of_mem _ m)
          have eo := ho o (List.mem_cons_self ..)
          subst eo
          by_cases e : x.1 = k
          · have e' : y.1 = k := h.1 ▸ e
            simp only [List.map_cons, if_pos e, if_pos e', List.length_cons, List.replicate_succ]
            exact ⟨by rw [h.1, i1], .cons rv i2 fun b => by simp [Fp.z, rv.zero_of_no b]⟩
          · have e' : ¬ y.1 = k := h.1 ▸ e
            simp only [List.map_cons, if_neg e, if_neg e', List.length_cons, List.replicate_succ]
            exact ⟨by rw [h.1, i1], .cons r i2 fun b => by simp [Fp.z, r.zero_of_no b]⟩
  unfold putK dput
  rw [any hk]
  by_cases e : (kds.any fun kv => decide (kv.1 = k)) = true
  · rw [if_pos e, if_pos e]
    obtain ⟨a, b⟩ := mp hk r ho
    exact ⟨a, by rw [List.length_map]; exact b⟩
  · rw [if_neg e, if_neg e]
    refine ⟨by simp [hk], ?_⟩
    have := (r.nos ho).append rv.one
    simp only [List.map_append, List.map_cons, List.map_nil, List.length_append, List.length_cons, List.length_nil, Nat.zero_add]
    rw [List.replicate_succ']
    have l : (kds.map (·.2)).length = kds.length := by simp
    rw [l] at this
    exact this.fp fun b => by simp [Fp.z, rv.zero_of_no b]
def dcGo (vs : List Nat) (tg : Tgt) (t : M Bool) (fk f : M DO) : List D → Env → List (Key × D) → Option (List (Key × D) × Env)
  | [], ρ, acc => some (acc, ρ)
  | d :: ds, ρ, acc => match tg d ρ with
    | none => none
    | some ρ1 => match t ρ1 with
      | .ok false ρ2 => dcGo vs tg t fk f ds (wipeE ρ2 vs) acc
      | .ok true ρ2 => (match fk ρ2 with
        | .ok kd ρ3 => (match f ρ3 with
          | .ok (x, .no) ρ4 => (match keyOf kd.1 with
            | some k => dcGo vs tg t fk f ds (wipeE ρ4 vs) (dput acc k x)
            | none => none)
          | _ => none)
        | _ => none)
      | _ => none
def mDc (vs : List Nat) (fi : M (List D)) (tg : Tgt) (t : M Bool) (fk f : M DO) : M DO := M.bind fi fun ds ρ => if ds.length < sizeLine then (match dcGo vs tg t fk f ds (wipeE ρ vs) [] with
  | some r => .ok (.dic r.1, .lst .no) (restE ρ (wipeE r.2 vs) vs)
  | none => .stuck) else .stuck
section
variable {X : Cx} {cl : String → Addr} {C : Pc} {W : WX} {p p1 p2 o o1 o2 : Bool} {e a c : Expr} {es : List Expr} {fe fa fk : M DO} {ft : M Bool} {fs : M (List DO)} {pos : Pos}
theorem dc_den {K : PySem.W.Frag} {wi : TI} {fi : M (List D)} {vs ts : List Nat} {tt : Tgt} (di : DenI K cl C W wi fi) (hts : (ts.all fun i => vs.contains i) = true) (hp : (C.pin.all fun p => !(vs.contains p.1)) = true) :
    Den K cl C W false true (tDc wi (gStar K cl C ts tt) (ttStar K cl C W0 false ft) (tStar K cl C W0 p1 true fk) (tStar K cl C W0 p true fe) vs) (mDc vs fi tt ft fk fe) := by
  intro σ H Q ρ Hf fp G w
  refine di σ H _ ρ Hf fp G ?_
  unfold mDc M.bind at w
  cases ef : fi ρ with
  | stuck => rw [ef] at w; exact w
  | err c fs ρ1 => rw [ef] at w; exact w
  | ok ds ρ1 =>
    rw [ef] at w
    intro J Hf1 H1 fp1 S G1 F1 IO hS D hD
    dsimp only at w
    split at w
    · rename_i hsz
      cases el : dcGo vs tt ft fk fe ds (wipeE ρ1 vs) [] with
      | none => rw [el] at w; exact False.elim w
      | some r =>
        rw [el] at w
        dsimp only at w
        obtain ⟨fpw, Gw, lw⟩ := G1.wipe hp
        have hDf : Hf1 D = none := G1.sub.free hD
        have hDp : fpw D = 0 := by
          by_cases z : fpw D = 0
          · exact z
          · obtain ⟨⟨o, ho⟩, _⟩ := Gw.live D z; rw [hD] at ho; cases ho
        refine ⟨fun i m H' => i ≤ ds.length ∧ m = ds.length - i ∧ ∃ ρ' Hf' fp' va da, Good K cl C Hf' H' (L2.wipe σ vs) ρ' fp' ∧ Fr Hf H fp Hf' H' fp' ∧ S Hf' ∧ Same Hf1 Hf' ∧ H' D = some (.dK va) ∧ Hf' D = none ∧ fp' D = 0 ∧
          va.map (·.1) = da.map (·.1) ∧ Rs K cl Hf' Hf' (va.map (·.2)) (da.map (·.2)) (List.replicate da.length .no) Fp.z ∧ va.length ≤ i ∧ dcGo vs tt ft fk fe (ds.drop i) ρ' da = some r,
          ⟨_, Nat.zero_le _, rfl, wipeE ρ1 vs, Hf1, fpw, [], [], Gw.alloc hD _, ((F1.trans (Fr.alloc hD _)).less lw), hS, Same.refl _, upd_same, hDf, hDp, rfl, .nil fun _ => rfl, Nat.le_refl _, el⟩, ?_⟩
        rintro i m H' ⟨hi, hm, ρ', Hf', fp', va, da, G', F', hS', s', hD', hDf', hDp', hk, ra, la, eg⟩
        by_cases hlt : i < ds.length
        · refine .inr ⟨IO.go i Hf' H' hlt hS' G'.sub, fun H'' => ∃ ρ'' Hf'' fp'' va da, Good K cl C Hf'' H'' (L2.wipe σ vs) ρ'' fp'' ∧ Fr Hf H fp Hf'' H'' fp'' ∧ S Hf'' ∧ Same Hf1 Hf'' ∧ H'' D = some (.dK va) ∧ Hf'' D = none ∧ fp'' D = 0 ∧
            va.map (·.1) = da.map (·.1) ∧ Rs K cl Hf'' Hf'' (va.map (·.2)) (da.map (·.2)) (List.replicate da.length .no) Fp.z ∧ va.length ≤ i + 1 ∧ dcGo vs tt ft fk fe (ds.drop (i + 1)) ρ'' da = some r, fun H'' h => ⟨ds.length - (i + 1), by omega, hlt, rfl, h⟩, fun x H2 y => ?_⟩
          have hd : ds[i]? = some ds[i] := List.getElem?_eq_getElem hlt
          obtain ⟨Hf2, G2, F2, r2, how⟩ := IO.next hd hS' G' y
          have stay : ∀ {Ha Hb : Hp} {Hfa Hfb : Hp} {fa fb : Fp} {ov : HO}, Fr Hfa Ha fa Hfb Hb fb → Ha D = some ov → Hfa D = none → fa D = 0 → Hb D = some ov ∧ Hfb D = none ∧ fb D = 0 := fun {Ha Hb Hfa Hfb fa fb ov} F h1 h2 h3 => by
            refine ⟨F.keep D _ h1 h3, ?_, ?_⟩
            · cases e : Hfb D with
              | none => rfl
              | some u =>
                rcases F.newf D (by rw [e]; exact fun z => nomatch z) with q | q | q
                · exact absurd h2 q
                · exact absurd h3 q
                · rw [h1] at q; cases q
            · by_cases z : fb D = 0
              · exact z
              · rcases F.new D z with q | q
                · exact absurd h3 q
                · rw [h1] at q; cases q
          obtain ⟨d2, df2, dp2⟩ := stay F2 hD' hDf' hDp'
          rw [List.drop_eq_getElem_cons hlt] at eg
          unfold dcGo at eg
          cases et : tt ds[i] ρ' with
          | none => rw [et] at eg; cases eg
          | some ρ2 =>
            rw [et] at eg
            dsimp only at eg
            refine ⟨ds[i], ρ', Hf2, fp', Fp.z, ρ2, G2, r2, et, fun σ3 fp3 G3 l3 w3 => ?_⟩
            have hw : L2.wipe σ3 vs = L2.wipe σ vs := (w3 vs fun i m => by simpa using List.all_eq_true.mp hts i m).trans (wipe_idem σ vs)
            refine ⟨hw, ?_⟩
            have F3 : Fr Hf H fp Hf2 H2 fp3 := (F'.trans F2).less l3
            have dp3 : fp3 D = 0 := by have := l3 D; omega
            -- the end of a turn
            have next : ∀ {ρ4 : Env} {Hf4 H4 : Hp} {fp4 : Fp}, Good K cl C Hf4 H4 σ3 ρ4 fp4 → ∃ fp5, Good K cl C Hf4 H4 (L2.wipe σ vs) (wipeE ρ4 vs) fp5 ∧ ∀ b, fp5 b ≤ fp4 b := fun {ρ4 Hf4 H4 fp4} G4 => by
              obtain ⟨k, g, l⟩ := G4.wipe hp
              rw [hw] at g
              exact ⟨k, g, l⟩
            refine ⟨ρ2, Hf2, fp3, G3, ?_⟩
            cases eb : ft ρ2 with
            | stuck => rw [eb] at eg; cases eg
            | err c fs ρ3 => rw [eb] at eg; cases eg
            | ok b ρ3 =>
              rw [eb] at eg
              intro Hf4 H4 fp4 G4 F4 _
              obtain ⟨d4, df4, dp4⟩ := stay F4 d2 df2 dp3
              cases b with
              | false =>
                rw [if_neg Bool.false_ne_true]
                dsimp only at eg
                obtain ⟨k, g, l⟩ := next G4
                exact ⟨wipeE ρ3 vs, Hf4, k, va, da, g, (F3.trans F4).less l, IO.mono (F2.sub.trans F4.sub) hS', s'.trans (F2.sub.trans F4.sub), d4, df4, by have := l D; omega, hk, ra.to (F2.sub.trans F4.sub) (fun b hb => absurd rfl hb), by omega, eg⟩
              | true =>
                rw [if_pos rfl]
                dsimp only at eg
                refine ⟨ρ3, Hf4, fp4, G4, ?_⟩
                cases ek : fk ρ3 with
                | stuck => rw [ek] at eg; cases eg
                | err c fs ρ5 => rw [ek] at eg; cases eg
                | ok kd ρk =>
                  rw [ek] at eg
                  dsimp only at eg
                  intro kv Hfk Hk fpk fdk Gk rk Fk _ _
                  obtain ⟨dk, dfk, dpk⟩ := stay Fk d4 df4 dp4
                  refine ⟨ρk, Hfk, fpk, Gk, ?_⟩
                  cases ev : fe ρk with
                  | stuck => rw [ev] at eg; cases eg
                  | err c fs ρ5 => rw [ev] at eg; cases eg
                  | ok y ρ5 =>
                    rw [ev] at eg
                    obtain ⟨yd, yo⟩ := y
                    cases eky : keyOf kd.1 with
                    | none => rw [eky] at eg; cases yo <;> (dsimp only at eg; cases eg)
                    | some key =>
                      rw [eky] at eg
                      cases yo with
                      | no =>
                        dsimp only at eg
                        intro v Hf5 H5 fp5 fd G5 r5 F5 _ _
                        obtain ⟨d5, df5, dp5⟩ := stay F5 dk dfk dpk
                        have sub5 := F2.sub.trans (F4.sub.trans (Fk.sub.trans F5.sub))
                        refine ⟨va, key, key_rel rk eky, d5, by omega, ?_⟩
                        have hu : Good K cl C Hf5 (upd H5 D (.dK (putK va key v))) σ3 ρ5 fp5 := ⟨fun b o h => by
                          by_cases z : b = D
                          · rw [z, df5] at h; cases h
                          · rw [upd_ne z]; exact G5.sub b o h, G5.env.to (Same.refl _) fun b hb => ⟨upd_ne fun z => hb (by rw [z]; exact dp5), (G5.live b hb).2⟩, G5.nd, G5.pin, G5.fac⟩
                        obtain ⟨k, g, l⟩ := next hu
                        have Fu : Fr Hf H fp Hf5 (upd H5 D (.dK (putK va key v))) k := by
                          have F5' := (((F3.trans F4).trans Fk).trans F5).less l
                          have hDn : H D = none ∨ fp D ≠ 0 := by
                            cases z : H D with
                            | none => exact .inl rfl
                            | some u =>
                              refine .inr fun z2 => ?_
                              have := F1.keep D u z z2
                              rw [hD] at this; cases this
                          exact ⟨F5'.sub, fun b o h z => by
                            by_cases zb : b = D
                            · subst zb
                              rcases hDn with q | q
                              · rw [h] at q; cases q
                              · exact absurd z q
                            · rw [upd_ne zb]; exact F5'.keep b o h z, fun b h => by
                            by_cases zb : b = D
                            · subst zb; rw [upd_same] at h; cases h
                            · rw [upd_ne zb] at h; exact F5'.there b h, F5'.new, F5'.newf⟩
                        have rv : R1 K cl Hf5 Hf5 v yd .no fd := r5.to (Same.refl _) fun b hb => absurd (r5.zero_of_no b) hb
                        obtain ⟨q1, q2⟩ := dput_rel (k := key) hk (ra.to (H' := Hf5) sub5 fun b hb => absurd rfl hb) mem_rep rv
                        exact ⟨wipeE ρ5 vs, Hf5, k, putK va key v, dput da key yd, g, Fu, IO.mono sub5 hS', s'.trans sub5, upd_same, df5, by have := l D; omega, q1, q2, by have := length_putK va key v; omega, eg⟩
                      | lst c => dsimp only at eg; cases eg
                      | obj c => dsimp only at eg; cases eg
        · have he : i = ds.length := by omega
          subst he
          rw [List.drop_length] at eg
          cases eg
          refine .inl ⟨IO.stop Hf' H' hS' G'.sub, ?_⟩
          dsimp only at w
          obtain ⟨k, g, l⟩ := G1.unwipe G' s' hp
          have dd : ∀ b, ((if b = D then 1 else 0) + Fp.z b) + k b ≤ 1 := fun b => by
            by_cases z : b = D
            · subst z; have := l b; simp [Fp.z]; omega
            · rw [if_neg z]; have := g.nd b; simp [Fp.z]; omega
          refine w (.ref D) Hf' H' k _ g (.dicO hD' hDf' hk (ra.to (Same.refl _) fun b hb => absurd rfl hb) mem_rep fun b => rfl) (F'.less l) (fun _ => ⟨dd, fun b hb => ?_⟩) fun e => nomatch e
          have zb : b = D := by
            by_cases z : b = D
            · exact z
            · simp [z, Fp.z] at hb
          subst zb
          cases z : H b with
          | none => exact .inr rfl
          | some u =>
            refine .inl fun z2 => ?_
            have := F1.keep b u z z2
            rw [hD] at this; cases this
    · exact False.elim w
theorem qx_dc {kx elt tg iter : Expr} {ifs : List Expr} {scope : Scope} {own : List (Str × Nat)} {ts : List Nat} {tt : Tgt} {fi : M (List D)} (hN : X.N.Nodup) (hi : QI X cl C W tg iter fi) (ok : BlkOk X.N X.env.scope scope own)
    (hg : ∀ (s : Shared) (H : Hp) (Ca : Addr) (cc : List (Str × Addr)) (fp : List Addr), QG (X.blk s H scope (compEnvC scope cc Ca X.env) fp) cl C ts tg tt)
    (ht : ∀ (s : Shared) (H : Hp) (Ca : Addr) (cc : List (Str × Addr)) (fp : List Addr), QTs (X.blk s H scope (compEnvC scope cc Ca X.env) fp) cl C W0 ifs ft)
    (hk : ∀ (s : Shared) (H : Hp) (Ca : Addr) (cc : List (Str × Addr)) (fp : List Addr), QX (X.blk s H scope (compEnvC scope cc Ca X.env) fp) cl C W0 p1 true kx fk)
    (he : ∀ (s : Shared) (H : Hp) (Ca : Addr) (cc : List (Str × Addr)) (fp : List Addr), QX (X.blk s H scope (compEnvC scope cc Ca X.env) fp) cl C W0 p true elt fe)
    (hc : X.calm = true := by rfl) (hts : (ts.all fun i => (own.map (·.2)).contains i) = true := by rfl) (hp : (C.pin.all fun p => !((own.map (·.2)).contains p.1)) = true := by rfl) (hs : ∀ x, foldedSetIterable iter X.env x = pure x := by intro _; rfl) :
    QX X cl C W false true (.DictComp kx elt [⟨tg, iter, ifs, 0⟩] scope pos) (mDc (own.map (·.2)) fi tt ft fk fe) := by
  obtain ⟨wi, pi, di⟩ := hi
  exact ⟨_, pe_dc hc hN pi ok (fun s H Ca cc fp => (hg s H Ca cc fp).star) (fun s H Ca cc fp => (ht s H Ca cc fp).star) (fun s H Ca cc fp => (hk s H Ca cc fp).star) (fun s H Ca cc fp => (he s H Ca cc fp).star) hs, dc_den di hts hp⟩
end
end DL
/-! enumerate, zip, reversed. -/
namespace DL
open PySem PySem.Spec L2
/-! ### enumerate of a text -/
def IteS (z : Str) : It :=
  ⟨fun i _ => i < z.cps.size, fun i H v H' => ∃ T c, v = .ref T ∧ H T = none ∧ H' = upd H T (.tup [.int (i : Nat), .str ⟨#[c]⟩]) ∧ z.cps[i]? = some c, fun i _ => z.cps.size ≤ i⟩
theorem turn_enumS {P : Program} {w : World} {K : PySem.W.Frag} {elts : List Expr} {kk : Nat} {tpos : Pos} (x : Str) (t : Tok) (e it : Addr) :
    Turn P w K (.Tuple elts kk tpos) (IteS x) [e, it] e (fun i h => (∃ old, IsEnum h e it ((i : Nat) : Int) old) ∧ h.IsStrIter it (strIterType x) x t i ∧ e ≠ it ∧ i ≤ x.cps.size) where
  mem := by simp
  obj := fun i h st b hb => by
    obtain ⟨⟨old, he⟩, ⟨o, ho, hc, hd⟩, _⟩ := st
    have e' : b = e ∨ b = it := by simpa using hb
    rcases e' with z | z
    · rw [z]; exact ⟨_, he, fun v q => nomatch q⟩
    · rw [z]; exact ⟨o, ho, fun v q => by rw [hd] at q; cases q⟩
  keep := fun i h h' st k => let ⟨⟨old, he⟩, ⟨o, ho, r⟩, hne⟩ := st; ⟨⟨old, k e (by simp) _ he⟩, ⟨o, k it (by simp) o ho, r⟩, hne⟩
  item := by
    intro X hP hw hK hc i pins s σ H E I hf st hg
    subst hP hw hK
    obtain ⟨⟨old, he⟩, hit, hne, hle⟩ := st
    have hel : e < s.heap.objs.size := Heap.lt_size he
    have hil : it < s.heap.objs.size := by obtain ⟨_, q, _⟩ := hit; exact Heap.lt_size q
    have D := Draws.text (prog := X.prog) (w := X.w) (A := X.A.in1) (I.ok.hd hc) it x t
    refine wpAny_pyNext_enum_itemC D he hit hg hne (by simpa using hne) fun u h' tk hP ho hit' hT hsz hk => ?_
    obtain ⟨c, ut, hcx, rfl⟩ := hP
    refine ⟨_, rfl, wpAny_letOwnedTupleGo_enum (s := { s with heap := h', toks := tk + 1 }) ho fun h'' he' sb => ?_⟩
    have hT2 : h''.get? s.heap.objs.size = some { cls := .type "tuple", data := .seq #[.int i tk, .str ⟨#[c]⟩ ut] } := (sb.2 _ (Nat.ne_of_gt hel)).trans hT
    have new : ObjOk X.prog X.w (upd H s.heap.objs.size (.tup [.int (i : Nat), .str ⟨#[c]⟩])) h'' s.heap.objs.size (.tup [.int (i : Nat), .str ⟨#[c]⟩]) :=
      ⟨by show 2 ≤ sizeLine; decide, [.int i tk, .str ⟨#[c]⟩ ut], .cons ⟨_, rfl⟩ (.cons ⟨ut, rfl⟩ .nil), ⟨_, hT2, rfl, _, rfl⟩⟩
    have I1 : Inv X pins σ (upd H s.heap.objs.size (.tup [.int (i : Nat), .str ⟨#[c]⟩])) { s with heap := h'', toks := tk + 1 } :=
      I.turnedNew (ch := [e, it]) (fun b ob hb q => (sb.2 b (fun z => hb (by simp [z]))).trans (hk b ob (fun z => hb (by simp [z])) (fun z => hb (by simp [z])) q)) hf (Nat.le_refl _) new
    refine ⟨.ref s.heap.objs.size, _, I1, rfl, ⟨_, c, rfl, I.hok.fresh (Nat.le_refl _), rfl, hcx⟩, ⟨⟨.str ⟨#[c]⟩ ut, ?_⟩, ?_, hne, hg⟩, fun b hb => ?_⟩
    · have e1 : ((i + 1 : Nat) : Int) = (i : Int) + 1 := by omega
      rw [e1]; exact he'
    · obtain ⟨oo, h1, h2⟩ := hit'
      exact ⟨oo, (sb.2 it (Ne.symm hne)).trans h1, h2⟩
    · have hb' : b < s.heap.objs.size := by
        have e' : b = e ∨ b = it := by simpa using hb
        rcases e' with z | z
        · rw [z]; exact hel
        · rw [z]; exact hil
      rw [upd_ne (Nat.ne_of_lt hb')]
      exact (hf b hb).1
  done := by
    intro X hP hw hK hc i pins s σ H E I hf st hg
    subst hP hw hK
    obtain ⟨⟨old, he⟩, hit, hne, hle⟩ := st
    obtain ⟨f0, f1, f2, f3, f4, f5⟩ := hf it (by simp)
    have hi : i = x.cps.size := Nat.le_antisymm hle hg
    subst hi
    have D := Draws.text (prog := X.prog) (w := X.w) (A := X.A.in1) (I.ok.hd hc) it x t
    exact wpAny_pyNext_enum_endD D he hit fun h' eb => ⟨rfl, I.turned (t' := s.toks) (fun b o hb q => eb b o hb q) f0 f1 f3 f4 f5⟩
  self := fun A i s Q E st h => let ⟨⟨_, he⟩, _⟩ := st; wpAny_pyIter_enum he h
def iEnumS (ta : TA) : TI := fun σ H R => ta σ H fun vs H1 => ∃ x, vs = [.str x] ∧ R (IteS x) H1
theorem pi_enumS {X : Cx} {e : Expr} {ta : TA} {p pos tpos : Pos} {elts : List Expr} {kk : Nat} (hg : Gl X "enumerate") (hm : X.mg "enumerate" = none) (ha : PA X [e] ta) (hs : starEach [e] X.env = [(false, eval e X.env)] := by rfl) :
    PI X (.Tuple elts kk tpos) (.Call (.Name "enumerate" p) [e] [] pos) (iEnumS ta) := by
  refine ⟨fun pins s σ H R I h => ?_⟩
  refine PyProof.Rows.Call_ (ld_blt I hg hm PyProof.Rows.boot_enumerate (PyProof.Rows.callWith_type1 (thn (ha.run pos pins s σ H _ I h) fun us s1 ⟨vs, H1, I1, r1, q1⟩ => ?_) hs rfl))
  obtain ⟨x, ex, q⟩ := q1
  subst ex
  cases r1 with
  | cons r rr =>
    cases rr
    obtain ⟨t, rfl⟩ := r
    refine call_enumerate_str fun h' he hit hsz hk => wpAny_pyIter_enum he ?_
    have I2 : Inv X pins σ H1 { s1 with heap := h' } := I1.kept (t' := s1.toks) hk
    refine ⟨s1.heap.objs.size + 1, [s1.heap.objs.size + 1, s1.heap.objs.size], _, _, H1, rfl, I2, turn_enumS x t (s1.heap.objs.size + 1) s1.heap.objs.size, ⟨⟨.none, he⟩, hit, Nat.succ_ne_self _, Nat.zero_le _⟩, fun b hb => ?_, q⟩
    have e' : b = s1.heap.objs.size + 1 ∨ b = s1.heap.objs.size := by simpa using hb
    have hle : s1.heap.objs.size ≤ b := by
      rcases e' with z | z
      · rw [z]; exact Nat.le_add_right _ _
      · rw [z]; exact Nat.le_refl _
    exact I1.fpOk hle (I1.hok.fresh hle)
def enumD (ds : List D) : List D := (List.range ds.length).zipWith (fun i d => .tup [.int (i : Nat), d]) ds
theorem enumD_get {ds : List D} {i : Nat} {d : D} (h : (enumD ds)[i]? = some d) : ∃ y, ds[i]? = some y ∧ d = .tup [.int (i : Nat), y] := by
  unfold enumD at h
  rw [List.getElem?_zipWith] at h
  cases e1 : (List.range ds.length)[i]? with
  | none => rw [e1] at h; cases h
  | some j =>
    cases e2 : ds[i]? with
    | none => rw [e1, e2] at h; cases h
    | some y =>
      rw [e1, e2] at h
      obtain ⟨_, ej⟩ := List.getElem?_eq_some_iff.mp e1
      simp at ej
      subst ej
      cases h
      exact ⟨y, rfl, rfl⟩
theorem enumD_len (ds : List D) : (enumD ds).length = ds.length := by simp [enumD]
theorem itEnum {K : PySem.W.Frag} {cl : String → Addr} {a : Addr} {vs : List V} {ds : List D} : ItOk K cl (Ite K a) (enumD ds) (fun Hf => SqL K Hf a vs ∧ Rs K cl Hf Hf vs ds (List.replicate ds.length .no) Fp.z) where
  mono := fun s h => ⟨sqL_sub s h.1, h.2.to s fun b hb => absurd rfl hb⟩
  go := fun i Hf H hi h s => by
    rw [enumD_len] at hi
    have l := h.2.len.1
    exact ⟨vs, vs[i]'(by omega), sqL_sub s h.1, List.getElem?_eq_getElem _⟩
  stop := fun Hf H h s => ⟨vs, sqL_sub s h.1, by rw [enumD_len]; exact Nat.le_of_eq h.2.len.1⟩
  yld := fun i d Hf H x H' hd h s y => by
    obtain ⟨yd, hy, rfl⟩ := enumD_get hd
    obtain ⟨v, hv, r⟩ := R.sub h.2 mem_rep hy
    obtain ⟨T, u, rfl, hT, rfl, hx⟩ := y
    have := hx vs (sqL_sub s h.1)
    rw [hv] at this; cases this
    exact .inr ⟨T, _, _, hT, rfl, rfl, rfl, .cons (r_int _) (.cons (f := Fp.z) (r.to (Same.refl _) fun b hb => absurd rfl hb) (.nil (f := Fp.z) fun _ => rfl) fun _ => rfl) fun _ => rfl⟩
theorem itEnumS {K : PySem.W.Frag} {cl : String → Addr} {z : Str} : ItOk K cl (IteS z) (enumD ((signs z).map .str)) (fun _ => True) where
  mono := fun _ _ => trivial
  go := fun i Hf H hi _ _ => by
    rw [enumD_len] at hi
    show i < z.cps.size
    simpa [signs] using hi
  stop := fun Hf H _ _ => by
    show z.cps.size ≤ _
    rw [enumD_len]; simp [signs]
  yld := fun i d Hf H x H' hd _ _ y => by
    obtain ⟨yd, hy, rfl⟩ := enumD_get hd
    obtain ⟨T, c, rfl, hT, rfl, hc⟩ := y
    simp [signs, hc] at hy
    subst hy
    exact .inr ⟨T, _, _, hT, rfl, rfl, rfl, .cons (r_int _) (.cons (f := Fp.z) (r_str _) (.nil (f := Fp.z) fun _ => rfl) fun _ => rfl) fun _ => rfl⟩
section
variable {X : Cx} {cl : String → Addr} {C : Pc} {W : WX} {p p1 p2 o o1 o2 : Bool} {e a b c : Expr} {es : List Expr} {fe fa fk : M DO} {ft : M Bool} {fs : M (List DO)} {pos pp tpos : Pos} {elts : List Expr} {kk : Nat}
def mEnum (fs : M (List DO)) : M (List D) := M.bind fs fun xs ρ => match xs with
  | [(.lst ds, .no)] => .ok (enumD ds) ρ
  | [(.str z, .no)] => .ok (enumD ((signs z).map .str)) ρ
  | _ => .stuck
/-- for i, x in enumerate(e), e a list or a text -/
theorem qi_enum (hg : Gl X "enumerate") (hm : X.mg "enumerate" = none) (ha : QA X cl C W p o [a] fs) (hs : starEach [a] X.env = [(false, eval a X.env)] := by rfl) : QI X cl C W (.Tuple elts kk tpos) (.Call (.Name "enumerate" pp) [a] [] pos) (mEnum fs) := by
  obtain ⟨t, pe, dn⟩ := ha
  refine ⟨_, pi_or2 (pi_enum hg hm pe hs) (pi_enumS hg hm pe hs), fun σ H R ρ Hf fp G w => ?_⟩
  have key : ∀ (T : List V → Hp → Prop), (∀ xs ρ1 vs Hf1 H1 fp1 fd, fs ρ = .ok xs ρ1 → Good X.K cl C Hf1 H1 σ ρ1 fp1 → Rs X.K cl Hf1 H1 vs (xs.map (·.1)) (xs.map (·.2)) fd → Fr Hf H fp Hf1 H1 fp1 → T vs H1) → t σ H T := fun T hT => by
    refine dn σ H T ρ Hf fp G ?_
    unfold mEnum M.bind at w
    cases e : fs ρ with
    | stuck => rw [e] at w; exact w
    | err c fs' ρ1 => rw [e] at w; exact w
    | ok xs ρ1 => exact fun vs Hf1 H1 fp1 fd G1 r1 F1 _ _ => hT xs ρ1 vs Hf1 H1 fp1 fd e G1 r1 F1
  unfold mEnum M.bind at w
  cases ee : fs ρ with
  | stuck => rw [ee] at w; exact False.elim w
  | err c fs' ρ1 => exact .inl (key _ fun xs ρ1 vs Hf1 H1 fp1 fd e => by rw [ee] at e; cases e)
  | ok xs ρ0 =>
    rw [ee] at w
    dsimp only at w
    split at w
    · rename_i ds
      refine .inl (key _ fun ys ρ1 vs Hf1 H1 fp1 fd e G1 r1 F1 => ?_)
      rw [ee] at e; cases e
      cases r1 with
      | cons r rs hf =>
        cases rs
        dsimp only at r
        cases r with
        | lstF h r ho hf => exact ⟨_, _, rfl, SqL.of (G1.sub _ _ h), w _ Hf1 H1 fp1 _ G1 F1 itEnum ⟨SqL.of h, (r.nos ho).to (Same.refl _) fun b hb => absurd rfl hb⟩⟩
    · rename_i z
      refine .inr (key _ fun ys ρ1 vs Hf1 H1 fp1 fd e G1 r1 F1 => ?_)
      rw [ee] at e; cases e
      cases r1 with
      | cons r rs hf =>
        cases rs
        dsimp only at r
        obtain ⟨rfl, _⟩ := r.isStr
        exact ⟨_, rfl, w _ Hf1 H1 fp1 _ G1 F1 itEnumS trivial⟩
    · exact False.elim w
/-! reversed -/
def mRev (f : M DO) : M (List D) := M.bind f fun x ρ => match x with
  | (.lst ds, .no) => .ok ds.reverse ρ
  | (.tup ds, .no) => .ok ds.reverse ρ
  | _ => .stuck
theorem itRev {K : PySem.W.Frag} {cl : String → Addr} {a : Addr} {vs : List V} {ds : List D} (hl : vs.length = ds.length) : ItOk K cl (Itv K a vs.length) ds.reverse (fun Hf => SqL K Hf a vs ∧ Rs K cl Hf Hf vs ds (List.replicate ds.length .no) Fp.z) where
  mono := fun s h => ⟨sqL_sub s h.1, h.2.to s fun b hb => absurd rfl hb⟩
  go := fun i Hf H hi h s => by
    rw [List.length_reverse] at hi
    exact walk_rev.goes i H (by omega) (sqL_sub s h.1)
  stop := fun Hf H h s => by
    rw [List.length_reverse, ← hl]
    exact walk_rev.stops H (sqL_sub s h.1)
  yld := fun i d Hf H x H' hd h s y => by
    have hi := (List.getElem?_eq_some_iff.mp hd).1
    rw [List.length_reverse] at hi
    rw [List.getElem?_reverse hi] at hd
    obtain ⟨v, hv, r⟩ := R.sub h.2 mem_rep hd
    obtain ⟨rfl, hx⟩ := walk_rev.yields i H x H' (by omega) (sqL_sub s h.1) y
    rw [hl] at hx
    rw [hv] at hx; cases hx
    exact .inl ⟨rfl, r.to (Same.refl _) fun b hb => absurd rfl hb⟩
theorem itRevT {K : PySem.W.Frag} {cl : String → Addr} {a : Addr} {vs : List V} {ds : List D} (hl : vs.length = ds.length) : ItOk K cl (RT.ItvT K a vs.length) ds.reverse (fun Hf => SqT K Hf a vs ∧ Rs K cl Hf Hf vs ds (List.replicate ds.length .no) Fp.z) where
  mono := fun s h => ⟨sqT_sub s h.1, h.2.to s fun b hb => absurd rfl hb⟩
  go := fun i Hf H hi h s => by
    rw [List.length_reverse] at hi
    exact ⟨by omega, vs, vs[vs.length - 1 - i]'(by omega), sqT_sub s h.1, List.getElem?_eq_getElem _⟩
  stop := fun Hf H h s => by
    rw [List.length_reverse, ← hl]
    exact Nat.le_refl _
  yld := fun i d Hf H x H' hd h s y => by
    have hi := (List.getElem?_eq_some_iff.mp hd).1
    rw [List.length_reverse] at hi
    rw [List.getElem?_reverse hi] at hd
    obtain ⟨v, hv, r⟩ := R.sub h.2 mem_rep hd
    obtain ⟨rfl, hx⟩ := y
    have hx := hx vs (sqT_sub s h.1)
    rw [hl] at hx
    rw [hv] at hx; cases hx
    exact .inl ⟨rfl, r.to (Same.refl _) fun b hb => absurd rfl hb⟩
theorem qi_rev {tg : Expr} (hg : Gl X "reversed") (hm : X.mg "reversed" = none) (ha : QX X cl C W p o a fa) (hs : starEach [a] X.env = (false, eval a X.env) :: starEach [] X.env := by rfl) : QI X cl C W tg (.Call (.Name "reversed" pp) [a] [] pos) (mRev fa) := by
  obtain ⟨t, pe, dn⟩ := ha
  refine ⟨_, RT.pi_revA hg hm pe hs, fun σ H R ρ Hf fp G w => dn.bind G w fun x ρ1 v Hf1 H1 fp1 fd G1 r1 F1 c1 q1 w1 => ?_⟩
  split at w1
  · cases r1 with
    | lstF h r ho hf => exact ⟨_, _, rfl, .inl ⟨SqL.of (G1.sub _ _ h), w1 _ Hf1 H1 fp1 _ G1 F1 (itRev r.len.1) ⟨SqL.of h, (r.nos ho).to (Same.refl _) fun b hb => absurd rfl hb⟩⟩⟩
  · cases r1 with
    | tup h r ho hf => exact ⟨_, _, rfl, .inr ⟨SqT.of (G1.sub _ _ h), w1 _ Hf1 H1 fp1 _ G1 F1 (itRevT r.len.1) ⟨SqT.of h, (r.nos ho).to (Same.refl _) fun b hb => absurd rfl hb⟩⟩⟩
  · exact False.elim w1
/-! zip -/
def zipD (ds es : List D) : List D := ds.zipWith (fun x y => .tup [x, y]) es
theorem zipD_get {ds es : List D} {i : Nat} {d : D} (h : (zipD ds es)[i]? = some d) : ∃ x y, ds[i]? = some x ∧ es[i]? = some y ∧ d = .tup [x, y] := by
  unfold zipD at h
  rw [List.getElem?_zipWith] at h
  cases e1 : ds[i]? with
  | none => rw [e1] at h; cases h
  | some x =>
    cases e2 : es[i]? with
    | none => rw [e1, e2] at h; cases h
    | some y => rw [e1, e2] at h; cases h; exact ⟨x, y, rfl, rfl, rfl⟩
theorem zipD_len (ds es : List D) : (zipD ds es).length = min ds.length es.length := by simp [zipD]
def mZip (fs : M (List DO)) : M (List D) := M.bind fs fun xs ρ => match xs with
  | [(.lst ds, .no), (.lst es, .no)] => .ok (zipD ds es) ρ
  | [(.tup ds, .no), (.tup es, .no)] => .ok (zipD ds es) ρ
  | _ => .stuck
theorem itZip {K : PySem.W.Frag} {cl : String → Addr} {a b : Addr} {vs us : List V} {ds es : List D} : ItOk K cl (Itz K a b) (zipD ds es) (fun Hf => (SqL K Hf a vs ∧ Rs K cl Hf Hf vs ds (List.replicate ds.length .no) Fp.z) ∧ (SqL K Hf b us ∧ Rs K cl Hf Hf us es (List.replicate es.length .no) Fp.z)) where
  mono := fun s h => ⟨⟨sqL_sub s h.1.1, h.1.2.to s fun b hb => absurd rfl hb⟩, ⟨sqL_sub s h.2.1, h.2.2.to s fun b hb => absurd rfl hb⟩⟩
  go := fun i Hf H hi h s => by
    rw [zipD_len] at hi
    have l := h.1.2.len.1
    have l' := h.2.2.len.1
    exact ⟨vs, us, vs[i]'(by omega), us[i]'(by omega), sqL_sub s h.1.1, sqL_sub s h.2.1, List.getElem?_eq_getElem _, List.getElem?_eq_getElem _⟩
  stop := fun Hf H h s => by
    have l := h.1.2.len.1
    have l' := h.2.2.len.1
    rw [zipD_len]
    exact ⟨vs, us, sqL_sub s h.1.1, sqL_sub s h.2.1, by omega⟩
  yld := fun i d Hf H x H' hd h s y => by
    obtain ⟨xd, yd, hx, hy, rfl⟩ := zipD_get hd
    obtain ⟨v, hv, r⟩ := R.sub h.1.2 mem_rep hx
    obtain ⟨u, hu, r'⟩ := R.sub h.2.2 mem_rep hy
    obtain ⟨T, v', u', rfl, hT, rfl, h1, h2⟩ := y
    have := h1 vs (sqL_sub s h.1.1)
    rw [hv] at this; cases this
    have := h2 us (sqL_sub s h.2.1)
    rw [hu] at this; cases this
    exact .inr ⟨T, _, _, hT, rfl, rfl, rfl, .cons (f := Fp.z) (r.to (Same.refl _) fun b hb => absurd rfl hb) (.cons (f := Fp.z) (r'.to (Same.refl _) fun b hb => absurd rfl hb) (.nil (f := Fp.z) fun _ => rfl) fun _ => rfl) fun _ => rfl⟩
theorem itZipT {K : PySem.W.Frag} {cl : String → Addr} {a b : Addr} {vs us : List V} {ds es : List D} : ItOk K cl (RZ.ItzT K a b) (zipD ds es) (fun Hf => (SqT K Hf a vs ∧ Rs K cl Hf Hf vs ds (List.replicate ds.length .no) Fp.z) ∧ (SqT K Hf b us ∧ Rs K cl Hf Hf us es (List.replicate es.length .no) Fp.z)) where
  mono := fun s h => ⟨⟨sqT_sub s h.1.1, h.1.2.to s fun b hb => absurd rfl hb⟩, ⟨sqT_sub s h.2.1, h.2.2.to s fun b hb => absurd rfl hb⟩⟩
  go := fun i Hf H hi h s => by
    rw [zipD_len] at hi
    have l := h.1.2.len.1
    have l' := h.2.2.len.1
    exact ⟨vs, us, vs[i]'(by omega), us[i]'(by omega), sqT_sub s h.1.1, sqT_sub s h.2.1, List.getElem?_eq_getElem _, List.getElem?_eq_getElem _⟩
  stop := fun Hf H h s => by
    have l := h.1.2.len.1
    have l' := h.2.2.len.1
    rw [zipD_len]
    exact ⟨vs, us, sqT_sub s h.1.1, sqT_sub s h.2.1, by omega⟩
  yld := fun i d Hf H x H' hd h s y => by
    obtain ⟨xd, yd, hx, hy, rfl⟩ := zipD_get hd
    obtain ⟨v, hv, r⟩ := R.sub h.1.2 mem_rep hx
    obtain ⟨u, hu, r'⟩ := R.sub h.2.2 mem_rep hy
    obtain ⟨T, v', u', rfl, hT, rfl, h1, h2⟩ := y
    have := h1 vs (sqT_sub s h.1.1)
    rw [hv] at this; cases this
    have := h2 us (sqT_sub s h.2.1)
    rw [hu] at this; cases this
    exact .inr ⟨T, _, _, hT, rfl, rfl, rfl, .cons (f := Fp.z) (r.to (Same.refl _) fun b hb => absurd rfl hb) (.cons (f := Fp.z) (r'.to (Same.refl _) fun b hb => absurd rfl hb) (.nil (f := Fp.z) fun _ => rfl) fun _ => rfl) fun _ => rfl⟩
theorem qi_zip (hg : Gl X "zip") (hm : X.mg "zip" = none) (ha : QA X cl C W p o [a, b] fs) (hs : starEach [a, b] X.env = (false, eval a X.env) :: starEach [b] X.env := by rfl) (hpl : (backTo pos (starEach [b] X.env)).any (·.1) = false := by rfl) : QI X cl C W (.Tuple elts kk tpos) (.Call (.Name "zip" pp) [a, b] [] pos) (mZip fs) := by
  obtain ⟨t, pe, dn⟩ := ha
  refine ⟨_, RZ.pi_zipA hg hm pe hs hpl, fun σ H R ρ Hf fp G w => dn.bind G w fun xs ρ1 vs Hf1 H1 fp1 fd G1 r1 F1 c1 q1 w1 => ?_⟩
  split at w1
  · cases r1 with
    | cons r rs hf =>
      cases rs with
      | cons r' rs' hf' =>
        cases rs'
        dsimp only at r r'
        cases r with
        | lstF h r ho hf =>
          cases r' with
          | lstF h' r' ho' hf' => exact ⟨_, _, _, _, rfl, .inl ⟨SqL.of (G1.sub _ _ h), SqL.of (G1.sub _ _ h'), w1 _ Hf1 H1 fp1 _ G1 F1 itZip ⟨⟨SqL.of h, (r.nos ho).to (Same.refl _) fun b hb => absurd rfl hb⟩, ⟨SqL.of h', (r'.nos ho').to (Same.refl _) fun b hb => absurd rfl hb⟩⟩⟩⟩
  · cases r1 with
    | cons r rs hf =>
      cases rs with
      | cons r' rs' hf' =>
        cases rs'
        dsimp only at r r'
        cases r with
        | tup h r ho hf =>
          cases r' with
          | tup h' r' ho' hf' => exact ⟨_, _, _, _, rfl, .inr ⟨SqT.of (G1.sub _ _ h), SqT.of (G1.sub _ _ h'), w1 _ Hf1 H1 fp1 _ G1 F1 itZipT ⟨⟨SqT.of h, (r.nos ho).to (Same.refl _) fun b hb => absurd rfl hb⟩, ⟨SqT.of h', (r'.nos ho').to (Same.refl _) fun b hb => absurd rfl hb⟩⟩⟩⟩
  · exact False.elim w1
end
end DL
/-! Places: a slot, a field of a slot's instance; what is changed there. -/
namespace DL
open PySem PySem.Spec L2
inductive Pl where
  | s (i : Nat)
  | f (i : Nat) (fn : String)
def Pl.slot : Pl → Bool
  | .s _ => true
  | .f _ _ => false
def getP (tab : CT) : Pl → Env → Option DO
  | .s i, ρ => match ρ[i]? with | some (some x) => some x | _ => none
  | .f i fn, ρ => match ρ[i]? with | some (some (.obj c fds, .obj fo)) => if hasF tab c fn = true then (fds.lookup fn).map fun d => (d, ownF fo fn) else none | _ => none
/-- other data there, the ownership as it is -/
def setP : Pl → D → Env → Env
  | .s i, d, ρ => match ρ[i]? with | some (some (_, o)) => ρ.set i (some (d, o)) | _ => ρ
  | .f i fn, d, ρ => match ρ[i]? with | some (some (.obj c fds, o)) => ρ.set i (some (.obj c (fput fn d fds), o)) | _ => ρ
def AtP (σ : L2.St) (H : Hp) : Pl → V → Prop
  | .s i, v => σ[i]? = some (some v)
  | .f i fn, v => ∃ x c dx fvs, σ[i]? = some (some (.ref x)) ∧ H x = some (.ins c dx fvs) ∧ fvs.lookup (Str.ofString fn) = some v
section
variable {K : PySem.W.Frag} {cl : String → Addr} {C : Pc} {W : WX} {Hf H Hf1 H1 : Hp} {σ : L2.St} {ρ ρ1 : Env} {fp fp1 f g : Fp}
/-- a field apart from the others -/
theorem field_split {k : String} : ∀ {fvs : List (Str × V)} {fds : List (String × D)} {os : List Own} {f : Fp} {d : D}, fvs.map (·.1) = fds.map (fun p => Str.ofString p.1) → Rs K cl Hf H (fvs.map (·.2)) (fds.map (·.2)) os f → fds.lookup k = some d →
    ∃ (v : V) (o : Own) (g r : Fp), fvs.lookup (Str.ofString k) = some v ∧ R1 K cl Hf H v d o g ∧ (∀ b, f b = g b + r b) ∧ (∀ h : String → Own, os = fds.map (fun p => h p.1) → o = h k) ∧ (∀ d', (fput k d' fds).map (·.1) = fds.map (·.1)) ∧
    ∀ Hf' H' d' g', Same Hf Hf' → (∀ b, r b ≠ 0 → H' b = H b ∧ Hf' b = none) → R1 K cl Hf' H' v d' o g' → Rs K cl Hf' H' (fvs.map (·.2)) ((fput k d' fds).map (·.2)) os (fun b => g' b + r b)
  | [], fds, os, f, d, hk, r, h => by
    cases fds with
    | nil => cases h
    | cons p ps => cases hk
  | q :: fvs, fds, os, f, d, hk, r, h => by
    cases fds with
    | nil => cases hk
    | cons p ps =>
      simp only [List.map_cons] at hk r
      obtain ⟨e1, e2⟩ := List.cons.inj hk
      cases r with
      | @cons f1 g1 _ _ _ _ _ o os' r rs hf =>
        obtain ⟨q1, q2⟩ := q
        obtain ⟨p1, p2⟩ := p
        by_cases c : k = p1
        · subst c
          have e1 : q1 = Str.ofString k := e1
          subst e1
          simp [List.lookup] at h
          subst h
          refine ⟨q2, o, f1, g1, by simp [List.lookup], r, hf, fun h e => (List.cons.inj e).1, fun d' => by simp [fput], fun Hf' H' d' g' s kk r' => ?_⟩
          simp only [fput, if_true, List.map_cons]
          exact .cons r' (rs.to s kk) fun b => rfl
        · have a1 : List.lookup k ((p1, p2) :: ps) = List.lookup k ps := by
            have : (k == p1) = false := by simpa using c
            simp [List.lookup, this]
          have a2 : List.lookup (Str.ofString k) ((q1, q2) :: fvs) = List.lookup (Str.ofString k) fvs := by
            have hne : ¬ Str.ofString k = q1 := fun h => c (ofString_inj (h.trans e1))
            have : (Str.ofString k == q1) = false := by simpa using hne
            simp [List.lookup, this]
          rw [a1] at h
          obtain ⟨v, o', g', r', h1, h2, h3, h4, h5, h6⟩ := field_split (k := k) e2 rs h
          have c' : ¬ p1 = k := fun e => c e.symm
          refine ⟨v, o', g', fun b => f1 b + r' b, a2.trans h1, h2, fun b => by have := hf b; have := h3 b; show _ = _ + (_ + _); omega, fun h e => h4 h (List.cons.inj e).2, fun d' => by simp only [fput, if_neg c', List.map_cons, h5], fun Hf' H' d' g'' s kk r'' => ?_⟩
          simp only [fput, if_neg c', List.map_cons]
          refine .cons (r.to s fun b hb => kk b (by show f1 b + r' b ≠ 0; omega)) (h6 Hf' H' d' g'' s (fun b hb => kk b (by show f1 b + r' b ≠ 0; omega)) r'') fun b => by show g'' b + (f1 b + r' b) = f1 b + (g'' b + r' b); omega
theorem Good.atP {tab : CT} {pl : Pl} {x : DO} (G : Good K cl C Hf H σ ρ fp) (h : getP tab pl ρ = some x) : ∃ v, AtP σ H pl v := by
  cases pl with
  | s i =>
    dsimp only [getP] at h
    split at h
    · rename_i y hy
      obtain ⟨v, g, k, h1, _⟩ := G.env.at (d := y.1) (o := y.2) hy
      exact ⟨v, h1⟩
    · cases h
  | f i fn =>
    dsimp only [getP] at h
    split at h
    · rename_i c fds fo hy
      split at h
      · cases e : fds.lookup fn with
        | none => rw [e] at h; cases h
        | some d =>
          obtain ⟨v, g, k, h1, h2, _⟩ := G.env.at hy
          obtain ⟨a, dx, fvs, os, g', rfl, ha, hk, rs, _⟩ := h2.isObj G.sub
          obtain ⟨v, _, _, e2, _⟩ := (lookup_rel (k := fn) (g := fun _ => .no) hk rs).2 d e
          exact ⟨v, a, cl c, dx, fvs, h1, ha, e2⟩
      · cases h
    · cases h
/-- THE place: its data apart from all others; other data may come -/
theorem Good.place {tab : CT} {pl : Pl} {x : DO} {v : V} (G : Good K cl C Hf H σ ρ fp) (h : getP tab pl ρ = some x) (ha : AtP σ H pl v) :
    ∃ (g k : Fp), R1 K cl Hf H v x.1 x.2 g ∧ (∀ b, fp b = g b + k b) ∧ ∀ Hf' H' d' g', Same Hf Hf' → Same Hf' H' → R1 K cl Hf' H' v d' x.2 g' → (∀ b, k b ≠ 0 → H' b = H b ∧ Hf' b = none) → (∀ b, g' b + k b ≤ 1) → Good K cl C Hf' H' σ (setP pl d' ρ) (fun b => g' b + k b) := by
  cases pl with
  | s i =>
    dsimp only [getP] at h
    split at h
    · rename_i y hy
      have h := Option.some.inj h
      subst h
      obtain ⟨v', g, k, h1, h2, h3, h4⟩ := G.env.at (d := y.1) (o := y.2) hy
      have ha : σ[i]? = some (some v) := ha
      rw [h1] at ha; cases ha
      refine ⟨g, k, h2, h4, fun Hf' H' d' g' s s' r kk nd => ⟨s', ?_, nd, G.pin, C.mono s G.fac⟩⟩
      have hl : i < ρ.length := (List.getElem?_eq_some_iff.mp hy).1
      have e := (h3.to s kk).back h1 r (by simp [hl])
      rw [List.set_set] at e
      dsimp only [setP]
      rw [hy]
      exact e
    · cases h
  | f i fn =>
    dsimp only [getP] at h
    split at h
    · rename_i c fds fo hy
      split at h
      · cases e : fds.lookup fn with
        | none => rw [e] at h; cases h
        | some d =>
          rw [e] at h; cases h
          obtain ⟨vo, g, k, h1, h2, h3, h4⟩ := G.env.at hy
          cases h2 with
          | @objO _ g2 a dx _ fvs _ os _ hH hn hk r ho hf =>
            obtain ⟨v', o', g1, r1, e1, e2, e3, e4, e5, e6⟩ := field_split hk r e
            obtain ⟨x, c', dx', fvs', hσ, hx, hv⟩ := ha
            rw [h1] at hσ; cases hσ
            rw [hH] at hx; cases hx
            rw [e1] at hv; cases hv
            have eo : o' = ownF fo fn := e4 _ ho
            subst eo
            refine ⟨g1, fun b => ((if b = a then 1 else 0) + r1 b) + k b, e2, fun b => by have := h4 b; have := hf b; have := e3 b; show _ = _ + ((_ + _) + _); omega, fun Hf' H' d' g' s s' rr kk nd => ⟨s', ?_, nd, G.pin, C.mono s G.fac⟩⟩
            dsimp only at kk nd rr
            have ka := kk a (by rw [if_pos rfl]; omega)
            have r' := e6 Hf' H' d' g' s (fun b hb => kk b (by omega)) rr
            have ro : R1 K cl Hf' H' (.ref a) (.obj c (fput fn d' fds)) (.obj fo) (fun b => (if b = a then 1 else 0) + (g' b + r1 b)) := by
              refine .objO (ka.1.trans hH) ka.2 ?_ r' ?_ fun b => rfl
              · rw [hk, show fds.map (fun p => Str.ofString p.1) = (fds.map (·.1)).map Str.ofString by rw [List.map_map]; rfl, ← e5 d', List.map_map]; rfl
              · rw [ho, show fds.map (fun p => ownF fo p.1) = (fds.map (·.1)).map (ownF fo) by rw [List.map_map]; rfl, ← e5 d', List.map_map]; rfl
            have hl : i < ρ.length := (List.getElem?_eq_some_iff.mp hy).1
            have eb := (h3.to s fun b hb => kk b (by omega)).back h1 ro (by simp [hl])
            rw [List.set_set] at eb
            dsimp only [setP]
            rw [hy]
            have ef : (fun b => ((if b = a then 1 else 0) + (g' b + r1 b)) + k b) = fun b => g' b + (((if b = a then 1 else 0) + r1 b) + k b) := funext fun b => by omega
            rw [ef] at eb
            exact eb
      · cases h
    · cases h
theorem AtP.keep {pl : Pl} {v : V} {H' : Hp} (h : AtP σ H pl v) (k : pl.slot = true ∨ Same H H') : AtP σ H' pl v := by
  cases pl with
  | s i => exact h
  | f i fn =>
    rcases k with k | k
    · cases k
    · obtain ⟨x, c, dx, fvs, h1, h2, h3⟩ := h
      exact ⟨x, c, dx, fvs, h1, k _ _ h2, h3⟩
/-- an owned object is rewritten -/
theorem Fr.own {Hf0 H0 : Hp} {fp0 fp' : Fp} {a : Addr} {o : HO} (F : Fr Hf0 H0 fp0 Hf H fp) (ha : fp a ≠ 0) (hn : ∀ b, fp' b ≠ 0 → fp0 b ≠ 0 ∨ H0 b = none) : Fr Hf0 H0 fp0 Hf (upd H a o) fp' :=
  ⟨F.sub, fun b u h z => by
    by_cases e : b = a
    · subst e
      rcases F.new b ha with q | q
      · exact absurd z q
      · rw [h] at q; cases q
    · rw [upd_ne e]; exact F.keep b u h z, fun b h => by
    by_cases e : b = a
    · subst e; rw [upd_same] at h; cases h
    · rw [upd_ne e] at h; exact F.there b h, hn, F.newf⟩
/-- the list at a place -/
theorem Good.lstAt {tab : CT} {pl : Pl} {ds : List D} {c : Own} {v : V} (G : Good K cl C Hf H σ ρ fp) (h : getP tab pl ρ = some (.lst ds, .lst c)) (ha : AtP σ H pl v) :
    ∃ (a : Addr) (vs : List V) (os : List Own) (gi k : Fp), v = .ref a ∧ H a = some (.lst vs) ∧ Rs K cl Hf H vs ds os gi ∧ (∀ o ∈ os, o = c) ∧ (∀ b, fp b = ((if b = a then 1 else 0) + gi b) + k b) ∧
      ∀ vs' ds' os' gi', Rs K cl Hf H vs' ds' os' gi' → (∀ o ∈ os', o = c) → gi' a = 0 → (∀ b, gi' b + k b ≤ 1) → Good K cl C Hf (upd H a (.lst vs')) σ (setP pl (.lst ds') ρ) (fun b => ((if b = a then 1 else 0) + gi' b) + k b) := by
  obtain ⟨g, k, r, hf, back⟩ := G.place h ha
  cases r with
  | @lstO _ gi a vs _ os _ hH hn r ho hg =>
    refine ⟨a, vs, os, gi, k, rfl, hH, r, ho, fun b => by rw [hf, hg], fun vs' ds' os' gi' r' ho' za nd => ?_⟩
    have ka : k a = 0 := by have := G.nd a; have := hf a; have := hg a; rw [if_pos rfl] at this; omega
    refine back Hf (upd H a (.lst vs')) (.lst ds') _ (Same.refl _) (fun b o hb => by rw [upd_ne fun e => by rw [e, hn] at hb; cases hb]; exact G.sub b o hb) (.lstO upd_same hn (r'.to (Same.refl _) fun b hb => ?_) ho' fun b => rfl) (fun b hb => ?_) fun b => ?_
    · have : b ≠ a := fun e => hb (by rw [e]; exact za)
      exact ⟨upd_ne this, (r'.live b hb).2⟩
    · have : b ≠ a := fun e => hb (by rw [e]; exact ka)
      have hfp : fp b ≠ 0 := by have := hf b; omega
      exact ⟨upd_ne this, (G.live b hfp).2⟩
    · by_cases e : b = a
      · subst e; rw [if_pos rfl, za, ka]; exact Nat.le_refl 1
      · rw [if_neg e]; have := nd b; omega
/-- the dict at a place -/
theorem Good.dicAt {tab : CT} {pl : Pl} {kds : List (Key × D)} {c : Own} {v : V} (G : Good K cl C Hf H σ ρ fp) (h : getP tab pl ρ = some (.dic kds, .lst c)) (ha : AtP σ H pl v) :
    ∃ (a : Addr) (kvs : List (Key × V)) (os : List Own) (gi k : Fp), v = .ref a ∧ H a = some (.dK kvs) ∧ kvs.map (·.1) = kds.map (·.1) ∧ Rs K cl Hf H (kvs.map (·.2)) (kds.map (·.2)) os gi ∧ (∀ o ∈ os, o = c) ∧ (∀ b, fp b = ((if b = a then 1 else 0) + gi b) + k b) ∧
      ∀ kvs' kds' os' gi', kvs'.map (·.1) = kds'.map (·.1) → Rs K cl Hf H (kvs'.map (·.2)) (kds'.map (·.2)) os' gi' → (∀ o ∈ os', o = c) → gi' a = 0 → (∀ b, gi' b + k b ≤ 1) → Good K cl C Hf (upd H a (.dK kvs')) σ (setP pl (.dic kds') ρ) (fun b => ((if b = a then 1 else 0) + gi' b) + k b) := by
  obtain ⟨g, k, r, hf, back⟩ := G.place h ha
  cases r with
  | @dicO _ gi a kvs _ os _ hH hn hk r ho hg =>
    refine ⟨a, kvs, os, gi, k, rfl, hH, hk, r, ho, fun b => by rw [hf, hg], fun kvs' kds' os' gi' hk' r' ho' za nd => ?_⟩
    have ka : k a = 0 := by have := G.nd a; have := hf a; have := hg a; rw [if_pos rfl] at this; omega
    refine back Hf (upd H a (.dK kvs')) (.dic kds') _ (Same.refl _) (fun b o hb => by rw [upd_ne fun e => by rw [e, hn] at hb; cases hb]; exact G.sub b o hb) (.dicO upd_same hn hk' (r'.to (Same.refl _) fun b hb => ?_) ho' fun b => rfl) (fun b hb => ?_) fun b => ?_
    · have : b ≠ a := fun e => hb (by rw [e]; exact za)
      exact ⟨upd_ne this, (r'.live b hb).2⟩
    · have : b ≠ a := fun e => hb (by rw [e]; exact ka)
      have hfp : fp b ≠ 0 := by have := hf b; omega
      exact ⟨upd_ne this, (G.live b hfp).2⟩
    · by_cases e : b = a
      · subst e; rw [if_pos rfl, za, ka]; exact Nat.le_refl 1
      · rw [if_neg e]; have := nd b; omega
theorem Good.ditAt {tab : CT} {pl : Pl} {kds : List (List Key × D)} {c : Own} {v : V} (G : Good K cl C Hf H σ ρ fp) (h : getP tab pl ρ = some (.dit kds, .lst c)) (ha : AtP σ H pl v) :
    ∃ (a : Addr) (kvs : List (List Key × V)) (os : List Own) (gi k : Fp), v = .ref a ∧ H a = some (.dT kvs) ∧ kvs.map (·.1) = kds.map (·.1) ∧ Rs K cl Hf H (kvs.map (·.2)) (kds.map (·.2)) os gi ∧ (∀ o ∈ os, o = c) ∧ (∀ b, fp b = ((if b = a then 1 else 0) + gi b) + k b) ∧
      ∀ kvs' kds' os' gi', kvs'.map (·.1) = kds'.map (·.1) → Rs K cl Hf H (kvs'.map (·.2)) (kds'.map (·.2)) os' gi' → (∀ o ∈ os', o = c) → gi' a = 0 → (∀ b, gi' b + k b ≤ 1) → Good K cl C Hf (upd H a (.dT kvs')) σ (setP pl (.dit kds') ρ) (fun b => ((if b = a then 1 else 0) + gi' b) + k b) := by
  obtain ⟨g, k, r, hf, back⟩ := G.place h ha
  cases r with
  | @ditO _ gi a kvs _ os _ hH hn hk r ho hg =>
    refine ⟨a, kvs, os, gi, k, rfl, hH, hk, r, ho, fun b => by rw [hf, hg], fun kvs' kds' os' gi' hk' r' ho' za nd => ?_⟩
    have ka : k a = 0 := by have := G.nd a; have := hf a; have := hg a; rw [if_pos rfl] at this; omega
    refine back Hf (upd H a (.dT kvs')) (.dit kds') _ (Same.refl _) (fun b o hb => by rw [upd_ne fun e => by rw [e, hn] at hb; cases hb]; exact G.sub b o hb) (.ditO upd_same hn hk' (r'.to (Same.refl _) fun b hb => ?_) ho' fun b => rfl) (fun b hb => ?_) fun b => ?_
    · have : b ≠ a := fun e => hb (by rw [e]; exact za)
      exact ⟨upd_ne this, (r'.live b hb).2⟩
    · have : b ≠ a := fun e => hb (by rw [e]; exact ka)
      have hfp : fp b ≠ 0 := by have := hf b; omega
      exact ⟨upd_ne this, (G.live b hfp).2⟩
    · by_cases e : b = a
      · subst e; rw [if_pos rfl, za, ka]; exact Nat.le_refl 1
      · rw [if_neg e]; have := nd b; omega
end
/-! ### the expression of a place -/
structure QP (X : Cx) (cl : String → Addr) (C : Pc) (tab : CT) (e : Expr) (pl : Pl) : Prop where
  ex : ∃ t, PE X e t ∧ ∀ σ H Q ρ Hf fp x, Good X.K cl C Hf H σ ρ fp → getP tab pl ρ = some x → (∀ v, AtP σ H pl v → Q v H) → t σ H Q
section
variable {X : Cx} {cl : String → Addr} {C : Pc} {W : WX} {p p1 p2 o o1 o2 : Bool} {e a c : Expr} {es : List Expr} {fe fa fk : M DO} {ft : M Bool} {fs : M (List DO)} {pos : Pos} {tab : CT} {pl : Pl}
theorem qp_name (i : Nat) {x : Str} {pos : Pos} (hN : X.N[i]? = some x := by rfl) (hv : Vis X.env.scope x := by first | exact Or.inl rfl | exact Or.inr (Or.inl rfl) | exact Or.inr (Or.inr rfl)) (hd : (x == ("__debug__" : Str)) = false := by decide)
    (hcd : (x == ("__classdict__" : Str)) = false := by decide) : QP X cl C tab (.Name x pos) (.s i) := by
  refine ⟨_, pe_var (i := i) hN hv hd hcd, fun σ H Q ρ Hf fp y G h k => ?_⟩
  obtain ⟨v, hv⟩ := G.atP h
  exact ⟨v, hv, k v hv⟩
theorem qp_fld (i : Nat) (fn : String) {x : Str} {pos pf : Pos} (T : CTOk X.K cl tab) (hN : X.N[i]? = some x := by rfl) (hv : Vis X.env.scope x := by first | exact Or.inl rfl | exact Or.inr (Or.inl rfl) | exact Or.inr (Or.inr rfl)) (hd : (x == ("__debug__" : Str)) = false := by decide)
    (hcd : (x == ("__classdict__" : Str)) = false := by decide) (hb : attributeBase (.Name x pos) (Str.ofString fn) X.env (eval (.Name x pos) X.env) = eval (.Name x pos) X.env := by rfl) : QP X cl C tab (.Attribute (.Name x pos) (Str.ofString fn) pf) (.f i fn) := by
  refine ⟨_, pe_fld (pe_var (i := i) hN hv hd hcd) hb, fun σ H Q ρ Hf fp y G h k => ?_⟩
  dsimp only [getP] at h
  split at h
  · rename_i c fds fo hy
    split at h
    · rename_i hF
      cases e : fds.lookup fn with
      | none => rw [e] at h; cases h
      | some d =>
        obtain ⟨v, g, k', h1, h2, _⟩ := G.env.at hy
        obtain ⟨a, dx, fvs, os, g', rfl, ha, hk, rs, _⟩ := h2.isObj G.sub
        obtain ⟨v, _, _, e2, _⟩ := (lookup_rel (k := fn) (g := fun _ => .no) hk rs).2 d e
        obtain ⟨hc, hn⟩ := hasF_ok T hF
        exact ⟨_, h1, a, cl c, dx, fvs, v, rfl, ha, hc, hn, e2, k v ⟨a, cl c, dx, fvs, h1, ha, e2⟩⟩
    · cases h
  · cases h
/-! x.append(e) -/
def mAppend (tab : CT) (pl : Pl) (fs : M (List DO)) : M DO := fun ρ => match getP tab pl ρ with
  | some (.lst _, .lst _) => M.bind fs (fun xs ρ1 => match xs, getP tab pl ρ1 with
    | [x], some (.lst ds, .lst c) => if sameOwn x.2 c = true ∧ ds.length < sizeLine then .ok (.non, .no) (setP pl (.lst (ds ++ [x.1])) ρ1) else .stuck
    | _, _ => .stuck) ρ
  | _ => .stuck
theorem qx_append {apos cpos : Pos} (ho : QP X cl C tab a pl) (ha : QA X cl C W p true [e] fs)
    (hc : (pl.slot || p) = true := by rfl)
    (hbase : attributeBase a (Str.ofString "append") X.env (eval a X.env) = eval a X.env := by rfl)
    (hfew : ((backTo cpos (starEach [e] X.env)).all (fun x => !x.1) && (backToKw cpos (keywordEach [] X.env)).all (fun x => x.1.isSome)
      && decide (([e]).length + ([] : List Keyword).length + (if ([] : List Keyword).isEmpty then 0 else 1) < 30)) = true := by rfl)
    (hline : (apos.endLine == cpos.line) = true := by rfl) (hs : starEach [e] X.env = (false, eval e X.env) :: starEach [] X.env := by rfl) (hplain : (backTo cpos (starEach [] X.env)).any (·.1) = false := by rfl) :
    QX X cl C W false true (.Call (.Attribute a (Str.ofString "append") apos) [e] [] cpos) (mAppend tab pl fs) := by
  obtain ⟨to, po, dp⟩ := ho
  obtain ⟨t, pa, da⟩ := ha
  refine ⟨_, pe_bm PySem.F.plainAttrs_list PySem.F.slot_list_append PySem.F.type_list_append mt_append po pa hbase hfew hline hs hplain, fun σ H Q ρ Hf fp G w => ?_⟩
  unfold mAppend at w
  split at w
  · rename_i ds0 c0 hg0
    refine dp σ H _ ρ Hf fp _ G hg0 fun v hv => ?_
    obtain ⟨a0, vs0, os0, gi0, k0, rfl, hH0, _⟩ := G.lstAt hg0 hv
    refine ⟨?_, ?_⟩
    · show tyV X.K "list" (.ref a0) H
      unfold tyV
      dsimp only
      exact .inl ⟨rfl, vs0, SqL.of hH0⟩
    · refine da.bind G w fun xs ρ1 us Hf1 H1 fp1 fd G1 r1 F1 c1 q1 w1 => ?_
      split at w1
      · rename_i x ds c hg1
        split at w1
        · rename_i hcnd
          have hv1 : AtP σ H1 pl (.ref a0) := hv.keep (by
            cases hs : pl.slot with
            | true => exact .inl rfl
            | false => rw [hs] at hc; exact .inr (q1 hc).same)
          obtain ⟨a1, vs, os, gi, k, e1, hH, r, hos, hfp, back⟩ := G1.lstAt hg1 hv1
          cases e1
          cases r1 with
          | @cons f1 g1 _ u _ _ _ _ _ ru rn hfd =>
            cases rn with
            | nil hz =>
              have l := r.len.1
              refine ⟨a0, vs, u, rfl, rfl, hH, by omega, ?_⟩
              have ec : x.2 = c := sameOwn_ok hcnd.1
              have d1 : ∀ b, f1 b + fp1 b ≤ 1 := fun b => by have := (c1 rfl).1 b; have := hfd b; omega
              have za : gi a0 + f1 a0 = 0 := by have := d1 a0; have := hfp a0; rw [if_pos rfl] at this; have := G1.nd a0; omega
              have r2 := r.append ru.one
              have G2 := back _ _ _ _ r2 (fun o m => by
                rcases List.mem_append.mp m with m | m
                · exact hos o m
                · rw [List.mem_singleton.mp m]; exact ec) za fun b => by
                  by_cases z : b = a0
                  · subst z; have := d1 b; have := hfp b; rw [if_pos rfl] at this; have := G1.nd b; show gi b + f1 b + k b ≤ 1; omega
                  · have := d1 b; have := hfp b; rw [if_neg z] at this; show gi b + f1 b + k b ≤ 1; omega
              have hfa : fp1 a0 ≠ 0 := by have := hfp a0; rw [if_pos rfl] at this; omega
              refine w1 .non _ _ _ Fp.z G2 (.non fun _ => rfl) (F1.own hfa fun b hb => ?_) (fun _ => ⟨fun b => by have := G2.nd b; simp only [Fp.z]; omega, fun b hb => absurd rfl hb⟩) fun e => nomatch e
              by_cases z : fp1 b = 0
              · exact (c1 rfl).2 b (by have := hfd b; have := hfp b; have hb : ((if b = a0 then 1 else 0) + (gi b + f1 b)) + k b ≠ 0 := hb; omega)
              · exact F1.new b z
        · exact False.elim w1
      · exact False.elim w1
  · exact False.elim w
/-! self.f = e -/
theorem putF_rel {K : PySem.W.Frag} {Hf H : Hp} {k : String} {v : V} {d : D} {o : Own} {fo : List (String × Own)} {g : Fp} (rv : R1 K cl Hf H v d o g) : ∀ {fvs : List (Str × V)} {fds : List (String × D)} {f : Fp}, fvs.map (·.1) = fds.map (fun p => Str.ofString p.1) → Rs K cl Hf H (fvs.map (·.2)) (fds.map (·.2)) (fds.map fun p => ownF fo p.1) f →
    (fds.map (·.1)).Nodup → (putF (Str.ofString k) v fvs).map (·.1) = (fput k d fds).map (fun p => Str.ofString p.1) ∧ ∃ f', Rs K cl Hf H ((putF (Str.ofString k) v fvs).map (·.2)) ((fput k d fds).map (·.2)) ((fput k d fds).map fun p => ownF (oput k d o fo) p.1) f' ∧ ∀ b, f' b ≤ g b + f b := by
  have own_ne : ∀ q : String, q ≠ k → ownF (oput k d o fo) q = ownF fo q := fun q h => by
    unfold oput
    split
    · rfl
    · unfold ownF
      have : (q == k) = false := by simpa using h
      simp [List.lookup, this]
  have own_eq : ownF (oput k d o fo) k = o := by
    unfold oput
    split
    · rename_i h; exact sameOwn_ok h
    · unfold ownF; simp [List.lookup]
  intro fvs
  induction fvs with
  | nil =>
    intro fds f hk r nd
    cases fds with
    | cons _ _ => cases hk
    | nil =>
      refine ⟨rfl, g, ?_, fun b => by omega⟩
      show Rs K cl Hf H [v] [d] [ownF (oput k d o fo) k] g
      rw [own_eq]
      exact rv.one
  | cons q fvs ih =>
    intro fds f hk r nd
    cases fds with
    | nil => cases hk
    | cons p ps =>
      simp only [List.map_cons] at hk r nd
      obtain ⟨e1, e2⟩ := List.cons.inj hk
      obtain ⟨n1, n2⟩ := List.nodup_cons.mp nd
      obtain ⟨q1, q2⟩ := q
      obtain ⟨p1, p2⟩ := p
      cases r with
      | @cons f1 g1 _ _ _ _ _ _ _ r rs hf =>
        dsimp only at e1
        subst e1
        by_cases c : p1 = k
        · subst c
          have rest : ps.map (fun p => ownF (oput p1 d o fo) p.1) = ps.map (fun p => ownF fo p.1) := List.map_congr_left fun p m => own_ne p.1 fun e => n1 (e ▸ List.mem_map.mpr ⟨p, m, rfl⟩)
          simp only [putF, fput, if_true, List.map_cons]
          refine ⟨by rw [e2], fun b => g b + g1 b, ?_, fun b => by have := hf b; show g b + g1 b ≤ _; omega⟩
          rw [own_eq, rest]
          exact .cons rv rs fun b => rfl
        · have c2 : ¬ Str.ofString p1 = Str.ofString k := fun h => c (ofString_inj h)
          obtain ⟨i1, f', i2, i3⟩ := ih e2 rs n2
          simp only [putF, fput, if_neg c, if_neg c2, List.map_cons]
          refine ⟨by rw [i1], fun b => f1 b + f' b, ?_, fun b => by have := hf b; have := i3 b; show f1 b + f' b ≤ _; omega⟩
          rw [own_ne p1 c]
          exact .cons r i2 fun b => rfl
def mFSet (tab : CT) (i : Nat) (f : String) (fe : M DO) : M Fl := M.bind fe fun x ρ => match ρ[i]? with
  | some (some (.obj c fds, .obj fo)) => if hasF tab c f = true ∧ fds.length < 1000 ∧ (fds.map (·.1)).Nodup then .ok .nx (ρ.set i (some (.obj c (fput f x.1 fds), .obj (oput f x.1 x.2 fo)))) else .stuck
  | _ => .stuck
theorem fset_den {t : TE} (T : CTOk X.K cl tab) (i : Nat) (f : String) (dn : Den X.K cl C W p true t fe) : DenS X.K cl C W (sFld X.K (tVar i) t (Str.ofString f)) (mFSet tab i f fe) := by
  intro σ H D ρ Hf fp G w
  refine dn.after (T := fun y H1 => tVar i σ H1 _) G w fun x ρ1 v Hf1 H1 fp1 fd G1 r1 F1 c1 w1 => ?_
  split at w1
  · rename_i c fds fo hy
    split at w1
    · rename_i hc
      obtain ⟨hF, hl, hnd⟩ := hc
      obtain ⟨vo, g, k, h1, h2, h3, h4⟩ := G1.env.at hy
      cases h2 with
      | @objO _ g2 a dx _ fvs _ os _ hH hn hk r ho hf =>
        subst ho
        obtain ⟨e1, f', e2, e3⟩ := putF_rel (k := f) r1 hk r hnd
        have hlen : fvs.length = fds.length := by simpa using congrArg List.length hk
        refine ⟨_, h1, a, cl c, dx, fvs, rfl, hH, (hasF_ok T hF).1, (hasF_ok T hF).2, by omega, ?_⟩
        have d1 := (c1 rfl).1
        have dis : ∀ b, f' b + k b ≤ 1 ∧ (b = a → f' b = 0 ∧ k b = 0) := fun b => by
          have q1 := d1 b; have q2 := h4 b; have q3 := hf b; have q4 := e3 b
          by_cases z : b = a
          · rw [if_pos z] at q3; exact ⟨by omega, fun _ => ⟨by omega, by omega⟩⟩
          · rw [if_neg z] at q3; exact ⟨by omega, fun h => absurd h z⟩
        have ro : R1 X.K cl Hf1 (upd H1 a (.ins (cl c) dx (putF (Str.ofString f) v fvs))) (.ref a) (.obj c (fput f x.1 fds)) (.obj (oput f x.1 x.2 fo)) (fun b => (if b = a then 1 else 0) + f' b) :=
          .objO upd_same hn e1 (e2.to (Same.refl _) fun b hb => ⟨upd_ne fun z => hb ((dis b).2 z).1, (e2.live b hb).2⟩) rfl fun b => rfl
        have hi : i < ρ1.length := (List.getElem?_eq_some_iff.mp hy).1
        have kfp : ∀ b, k b ≠ 0 → fp1 b ≠ 0 := fun b hb => by have := h4 b; omega
        have eb := (h3.to (Same.refl Hf1) (H' := upd H1 a (.ins (cl c) dx (putF (Str.ofString f) v fvs))) fun b hb => ⟨upd_ne fun z => hb ((dis b).2 z).2, (G1.live b (kfp b hb)).2⟩).back h1 ro (by simp [hi])
        rw [List.set_set] at eb
        have hfa : fp1 a ≠ 0 := by have := h4 a; have := hf a; rw [if_pos rfl] at this; omega
        refine w1 σ Hf1 _ _ ⟨fun b o hb => by rw [upd_ne fun e => by rw [e, hn] at hb; cases hb]; exact G1.sub b o hb, eb, fun b => ?_, G1.pin, G1.fac⟩ (F1.own hfa fun b hb => ?_)
        · have := dis b
          by_cases z : b = a
          · have := this.2 z; rw [if_pos z]; omega
          · rw [if_neg z]; omega
        · by_cases z : fp1 b = 0
          · refine (c1 rfl).2 b ?_
            have hb : ((if b = a then 1 else 0) + f' b) + k b ≠ 0 := hb
            have q1 := e3 b; have q2 := h4 b; have q3 := hf b
            by_cases zz : b = a
            · subst zz; exact absurd z hfa
            · rw [if_neg zz] at hb q3; omega
          · exact F1.new b z
    · exact False.elim w1
  · exact False.elim w1
theorem qs_fset (i : Nat) (f : String) {x : Str} {po pf : Pos} (T : CTOk X.K cl tab) (h : QX X cl C W p true e fe) (hs : swapsWith e (some (.Attribute (.Name x po) (Str.ofString f) pf)) pos.line X.env = pure false := by rfl) (hN : X.N[i]? = some x := by rfl)
    (hv : Vis X.env.scope x := by first | exact Or.inl rfl | exact Or.inr (Or.inl rfl) | exact Or.inr (Or.inr rfl)) (hd : (x == ("__debug__" : Str)) = false := by decide) (hcd : (x == ("__classdict__" : Str)) = false := by decide) :
    QS X cl C W (.Assign [.Attribute (.Name x po) (Str.ofString f) pf] e pos) (mFSet tab i f fe) := by
  obtain ⟨t, pe, dn⟩ := h
  exact ⟨_, ps_fld (pe_var (i := i) hN hv hd hcd) pe hs, fset_den T i f dn⟩
end
end DL
/-! x[k] = v, x op= e, a, b = e, {}. -/
namespace DL
open PySem PySem.Spec L2
theorem ps_or2 {X : Cx} {st : Stmt} {t u : TS} (h1 : PS X st t) (h2 : PS X st u) : PS X st (fun D σ H => t D σ H ∨ u D σ H) := ⟨fun pins s σ H D I h => by
  rcases h with h | h
  · exact h1.run pins s σ H D I h
  · exact h2.run pins s σ H D I h⟩
section
variable {X : Cx} {cl : String → Addr} {C : Pc} {W : WX} {p p1 p2 o o1 o2 : Bool} {e a b c value : Expr} {es : List Expr} {fe fa fk fv : M DO} {ft : M Bool} {fs : M (List DO)} {pos : Pos} {tab : CT} {pl : Pl}
/-! {} -/
theorem qx_newK : QX X cl C W true true (.Dict [] [] pos) (M.ret (.dic [], .lst .no)) := ⟨_, pe_dnewK, fun σ H Q ρ Hf fp G w q hq => by
  have G1 := G.alloc hq (.dK [])
  have hfp : fp q = 0 := by
    by_cases e : fp q = 0
    · exact e
    · obtain ⟨⟨u, h⟩, _⟩ := G.live q e; rw [hq] at h; cases h
  refine w (.ref q) Hf _ fp (fun b => (if b = q then 1 else 0) + Fp.z b) G1 (.dicO upd_same (G.sub.free hq) rfl (.nil (f := Fp.z) fun _ => rfl) (fun o m => nomatch m) fun b => rfl) (Fr.alloc hq _) (fun _ => ⟨fun b => ?_, fun b hb => ?_⟩) fun _ => G.quietA hq _
  · by_cases z : b = q
    · subst z; rw [if_pos rfl]; simp [Fp.z, hfp]
    · rw [if_neg z]; have := G.nd b; simp [Fp.z]; omega
  · by_cases z : b = q
    · subst z; exact .inr hq
    · simp [z, Fp.z] at hb⟩
theorem qx_newT : QX X cl C W true true (.Dict [] [] pos) (M.ret (.dit [], .lst .no)) := ⟨_, pe_dnewT, fun σ H Q ρ Hf fp G w q hq => by
  have G1 := G.alloc hq (.dT [])
  have hfp : fp q = 0 := by
    by_cases e : fp q = 0
    · exact e
    · obtain ⟨⟨u, h⟩, _⟩ := G.live q e; rw [hq] at h; cases h
  refine w (.ref q) Hf _ fp (fun b => (if b = q then 1 else 0) + Fp.z b) G1 (.ditO upd_same (G.sub.free hq) rfl (.nil (f := Fp.z) fun _ => rfl) (fun o m => nomatch m) fun b => rfl) (Fr.alloc hq _) (fun _ => ⟨fun b => ?_, fun b hb => ?_⟩) fun _ => G.quietA hq _
  · by_cases z : b = q
    · subst z; rw [if_pos rfl]; simp [Fp.z, hfp]
    · rw [if_neg z]; have := G.nd b; simp [Fp.z]; omega
  · by_cases z : b = q
    · subst z; exact .inr hq
    · simp [z, Fp.z] at hb⟩
/-! a, b = e -/
def mUnp (tg : Tgt) (fe : M DO) : M Fl := M.bind fe fun x ρ => match x.2 with
  | .no => (match tg x.1 ρ with | some ρ' => .ok .nx ρ' | none => .stuck)
  | _ => .stuck
theorem qs_unp {ts : List Nat} {tg : Expr} {tt : Tgt} (h : QX X cl C W p o e fe) (hg : QG X cl C ts tg tt) (hs : swapsWithSole [tg] e pos.line X.env = pure false := by rfl) (hw : swappedStores [tg] e X.env = pure none := by rfl)
    (h1 : (assignEach [tg] X.env).map (·.2) = [assign tg X.env] := by rfl) : QS X cl C W (.Assign [tg] e pos) (mUnp tt fe) := by
  obtain ⟨t, pe, dn⟩ := h
  obtain ⟨g, pg, dg⟩ := hg
  refine ⟨_, ps_asg pe pg hs hw h1, fun σ H D ρ Hf fp G w => dn.after (T := fun x H1 => g x σ H1 D.nx) G w fun x ρ1 v Hf1 H1 fp1 fd G1 r1 F1 c1 w1 => ?_⟩
  split at w1
  · rename_i ex
    split at w1
    · rename_i ρ' et
      rw [ex] at r1
      exact dg v x.1 σ H1 _ ρ1 Hf1 fp1 fd G1 r1 ρ' et fun σ' fp' G' l _ => w1 σ' Hf1 H1 fp' G' (F1.less l)
    · exact False.elim w1
  · exact False.elim w1
/-- a, b = x, y -/
def mPar (i j : Nat) (fs : M (List DO)) : M Fl := M.bind fs fun xs ρ => match xs with
  | [(d, .no), (d', .no)] => .ok .nx ((ρ.set i (some (d, .no))).set j (some (d', .no)))
  | _ => .stuck
theorem qs_par (i j : Nat) {x y : Str} {px py pt : Pos} {kt k2 : Nat} {pt2 : Pos} (hN : X.N.Nodup) (ha : QA X cl C W p o [a, b] fs) (hi : X.N[i]? = some x := by rfl) (hj : X.N[j]? = some y := by rfl) (hij : i ≠ j := by decide)
    (hx : X.env.scope.names.lookup x = some .local := by rfl) (hy : X.env.scope.names.lookup y = some .local := by rfl) (hc : X.calm = true := by rfl)
    (hp : (C.pin.all fun p => p.1 != i) = true := by rfl) (hp' : (C.pin.all fun p => p.1 != j) = true := by rfl)
    (hw : swappedStores [.Tuple [.Name x px, .Name y py] kt pt] (.Tuple [a, b] k2 pt2) X.env = pure (some [x, y]) := by rfl)
    (hs : swapsWithSole [.Tuple [.Name x px, .Name y py] kt pt] (.Tuple [a, b] k2 pt2) pos.line X.env = pure false := by rfl) :
    QS X cl C W (.Assign [.Tuple [.Name x px, .Name y py] kt pt] (.Tuple [a, b] k2 pt2) pos) (mPar i j fs) := by
  obtain ⟨t, pa, dn⟩ := ha
  refine ⟨_, ps_par hc hN hi hj hij hx hy pa hw hs, fun σ H D ρ Hf fp G w => ?_⟩
  refine dn σ H _ ρ Hf fp G ?_
  unfold mPar M.bind at w
  cases e : fs ρ with
  | stuck => rw [e] at w; exact w
  | err c fs ρ1 => rw [e] at w; exact w σ
  | ok xs ρ1 =>
    rw [e] at w
    intro vs Hf1 H1 fp1 fd G1 r1 F1 c1 q1
    dsimp only at w
    split at w
    · rename_i d d'
      cases r1 with
      | cons r rs hf =>
        cases rs with
        | cons r' rs' hf' =>
          cases rs'
          dsimp only at r r'
          refine ⟨_, _, rfl, ?_⟩
          obtain ⟨fp2, G2, l2⟩ := G1.set r (fun b => by rw [r.zero_of_no b]; have := G1.nd b; omega) hp
          obtain ⟨fp3, G3, l3⟩ := G2.set r' (fun b => by rw [r'.zero_of_no b]; have := G2.nd b; omega) hp'
          exact w _ Hf1 H1 fp3 G3 (F1.less fun b => by have := l2 b; have := l3 b; rw [r.zero_of_no b] at *; rw [r'.zero_of_no b] at *; omega)
    · exact False.elim w
/-! x op= e -/
theorem qs_aug (i : Nat) {op : Operator} {r : R2} {g : DO → DO → M DO} {x : Str} {pos' : Pos} (hN : X.N.Nodup) (ho : OpR X (inplaceOp op) r) (hg : DR2 X.K cl C W true true r g) (h : QX X cl C W p o e fe) (hi : X.N[i]? = some x := by rfl) (hx : Loc X.env.scope x := by first | exact Or.inl rfl | exact Or.inr rfl)
    (hp : (C.pin.all fun p => p.1 != i) = true := by rfl) (hf : X.fn x = true ∨ X.env.scope.names.lookup x = some .local := by first | exact .inl rfl | exact .inr rfl | assumption) :
    QS X cl C W (.AugAssign (.Name x pos') op e pos) (mSet i (m2 g (mNameF i) fe)) := by
  obtain ⟨t, pe, dn⟩ := h
  refine ⟨_, ps_aug (i := i) (ti := r) hN hi hx pe (fun pins s σ H x y v u Q I rx ry q => augR ho I rx ry q) hf, ?_⟩
  have dname : Den X.K cl C W true true (tVar i) (mNameF i) := fun σ H Q ρ Hf fp G w => by
    unfold mNameF at w
    split at w
    · rename_i d hy
      obtain ⟨v, g, k, h1, h2, h3, h4⟩ := G.env.at (d := d) (o := .no) hy
      exact ⟨v, h1, POk.keep w G h2⟩
    · exact False.elim w
  exact denSet (den2 dname dn hg rfl) hp
/-! x[k] = v -/
def putD (k : D) (x : DO) : DO → Option D
  | (.lst ds, .lst c) => (match k with | .int i => (match ixN ds.length i with | some j => if sameOwn x.2 c = true then some (.lst (ds.set j x.1)) else none | none => none) | _ => none)
  | (.dic kds, .lst .no) => (match keyOf k, x.2 with | some key, .no => if kds.length < sizeLine then some (.dic (dput kds key x.1)) else none | _, _ => none)
  | (.dit kds, .lst .no) => (match tkeyOf k, x.2 with | some key, .no => if kds.length < sizeLine then some (.dit (dput kds key x.1)) else none | _, _ => none)
  | _ => none
def mPut (tab : CT) (pl : Pl) (fk fv : M DO) : M Fl := M.bind fv fun x ρ => match getP tab pl ρ with
  | none => .stuck
  | some _ => M.bind fk (fun k ρ2 => match getP tab pl ρ2 with
    | some y => (match putD k.1 x y with | some d => .ok .nx (setP pl d ρ2) | none => .stuck)
    | none => .stuck) ρ
theorem R.setAt {K : PySem.W.Frag} {Hf H : Hp} {v : V} {d : D} {o : Own} {g : Fp} (rv : R1 K cl Hf H v d o g) : ∀ {vs : List V} {ds : List D} {os : List Own} {f : Fp} {j : Nat}, Rs K cl Hf H vs ds os f → (∀ x ∈ os, x = o) → ∃ os' f', Rs K cl Hf H (vs.set j v) (ds.set j d) os' f' ∧ (∀ x ∈ os', x = o) ∧ ∀ b, f' b ≤ g b + f b
  | [], ds, os, f, j, r, ho => by
    cases ds with
    | cons _ _ => cases r
    | nil => exact ⟨os, f, r, ho, fun b => by omega⟩
  | u :: vs, ds, os, f, j, r, ho => by
    cases r with
    | @cons f1 g1 _ _ _ _ ds o' os r rs hf =>
      cases j with
      | zero => exact ⟨o :: os, fun b => g b + g1 b, .cons rv rs fun b => rfl, fun x m => by
          rcases List.mem_cons.mp m with h | h
          · exact h
          · exact ho x (List.mem_cons_of_mem _ h), fun b => by have := hf b; show g b + g1 b ≤ _; omega⟩
      | succ j =>
        obtain ⟨os', f', h1, h2, h3⟩ := R.setAt rv (j := j) rs fun x m => ho x (List.mem_cons_of_mem _ m)
        exact ⟨o' :: os', fun b => f1 b + f' b, .cons r h1 fun b => rfl, fun x m => by
          rcases List.mem_cons.mp m with h | h
          · rw [h]; exact ho _ (List.mem_cons_self ..)
          · exact h2 x h, fun b => by have := hf b; have := h3 b; show f1 b + f' b ≤ _; omega⟩
theorem qs_put {pt : Pos} (hu : X.A.units + 1 < cLine) (ho : QP X cl C tab a pl) (hk : QX X cl C W p o b fk) (hv : QX X cl C W p1 true value fv) (hc : (pl.slot || p) = true := by rfl)
    (hs : swapsWith value (some (.Subscript a b pt)) pos.line X.env = pure false := by rfl)
    (hs1 : swapsWithSole [.Subscript a b pt] value pos.line X.env = pure false := by rfl) (hw : swappedStores [.Subscript a b pt] value X.env = pure none := by rfl)
    (h1 : (assignEach [.Subscript a b pt] X.env).map (·.2) = [assign (.Subscript a b pt) X.env] := by rfl)
    (ha : ∀ v, assign (.Subscript a b pt) X.env v = (do
      let ov ← holding [v] (eval a X.env)
      let iv ← holding [v, ov] (eval b X.env)
      standAt pt
      holding [v, ov, iv] (setItem ov iv v)
      release [v, ov, iv] []) := by intro _; rfl) : QS X cl C W (.Assign [.Subscript a b pt] value pos) (mPut tab pl fk fv) := by
  obtain ⟨ta, pa, da⟩ := ho
  obtain ⟨tk, pk, dk⟩ := hk
  obtain ⟨tv, pv, dv⟩ := hv
  refine ⟨_, ps_or2 (ps_asg pv (pg_sub pa pk set_list ha) hs1 hw h1) (ps_dput hu pa pk pv hs), fun σ H D ρ Hf fp G w => ?_⟩
  -- the way to the store
  have key : ∀ (T : V → V → V → Hp → Prop), (∀ x ρ1 k ρ2 y d v u w Hf2 H2 fp2 fd fk', fv ρ = .ok x ρ1 → fk ρ1 = .ok k ρ2 → getP tab pl ρ2 = some y → putD k.1 x y = some d → Good X.K cl C Hf2 H2 σ ρ2 fp2 → R1 X.K cl Hf2 H2 v x.1 x.2 fd → AtP σ H2 pl u → R1 X.K cl Hf2 H2 w k.1 k.2 fk' → (∀ b, fd b + fp2 b ≤ 1) → Fr Hf H fp Hf2 H2 fp2 → (∀ b, fd b ≠ 0 → fp b ≠ 0 ∨ H b = none) →
      (∀ σ' Hf' H' fp', Good X.K cl C Hf' H' σ' (setP pl d ρ2) fp' → Fr Hf H fp Hf' H' fp' → D.nx σ' H') → T v u w H2) → tv σ H fun v H1 => ta σ H1 fun u H2 => tk σ H2 fun w H3 => T v u w H3 := fun T hT => by
    refine dv σ H _ ρ Hf fp G ?_
    unfold mPut M.bind at w
    cases e : fv ρ with
    | stuck => rw [e] at w; exact w
    | err c fs ρ1 => rw [e] at w; exact w σ
    | ok x ρ1 =>
      rw [e] at w
      intro v Hf1 H1 fp1 fd G1 r1 F1 c1 _
      dsimp only at w
      cases eg : getP tab pl ρ1 with
      | none => rw [eg] at w; exact False.elim w
      | some y0 =>
        rw [eg] at w
        refine da σ H1 _ ρ1 Hf1 fp1 y0 G1 eg fun u hu => ?_
        refine dk σ H1 _ ρ1 Hf1 fp1 G1 ?_
        dsimp only at w
        cases e2 : fk ρ1 with
        | stuck => rw [e2] at w; exact w
        | err c fs ρ2 => rw [e2] at w; exact WzE.past (w σ) F1
        | ok k ρ2 =>
          rw [e2] at w
          intro w' Hf2 H2 fp2 fk' G2 r2 F2 c2 q2
          dsimp only at w
          cases e3 : getP tab pl ρ2 with
          | none => rw [e3] at w; exact False.elim w
          | some y =>
            rw [e3] at w
            dsimp only at w
            cases e4 : putD k.1 x y with
            | none => rw [e4] at w; exact False.elim w
            | some d =>
              rw [e4] at w
              have d1 := (c1 rfl).1
              have rx : R1 X.K cl Hf2 H2 v x.1 x.2 fd := r1.past F2 (.inl d1)
              have disj : ∀ b, fd b + fp2 b ≤ 1 := fun b => by
                by_cases z : fp2 b = 0
                · have := d1 b; omega
                · have n2 := G2.nd b
                  rcases F2.new b z with q | q
                  · have := d1 b; omega
                  · by_cases z2 : fd b = 0
                    · omega
                    · obtain ⟨⟨o', h'⟩, _⟩ := r1.live b z2; rw [q] at h'; cases h'
              exact hT x ρ1 k ρ2 y d v u w' Hf2 H2 fp2 fd fk' e e2 e3 e4 G2 rx (hu.keep (by
                cases hs : pl.slot with
                | true => exact .inl rfl
                | false => rw [hs] at hc; exact .inr (q2 hc).same)) r2 disj (F1.trans F2) (c1 rfl).2 w
  cases e : fv ρ with
  | stuck => unfold mPut M.bind at w; rw [e] at w; exact False.elim w
  | err c fs ρ1 => exact .inl (key (fun v u w H3 => rSetL u w v H3 fun H4 => D.nx σ H4) fun x ρ1 k ρ2 y d v u w Hf2 H2 fp2 fd fk' e' => by rw [e] at e'; cases e')
  | ok x0 ρ10 =>
    cases e2 : fk ρ10 with
    | stuck => unfold mPut M.bind at w; rw [e] at w; dsimp only at w; cases eg : getP tab pl ρ10 with
      | none => rw [eg] at w; exact False.elim w
      | some y => rw [eg] at w; dsimp only at w; rw [e2] at w; exact False.elim w
    | err c fs ρ1 => exact .inl (key (fun v u w H3 => rSetL u w v H3 fun H4 => D.nx σ H4) fun x ρ1 k ρ2 y d v u w Hf2 H2 fp2 fd fk' e' e'' => by rw [e] at e'; cases e'; rw [e2] at e''; cases e'')
    | ok k0 ρ20 =>
      cases e3 : getP tab pl ρ20 with
      | none => exact .inl (key (fun v u w H3 => rSetL u w v H3 fun H4 => D.nx σ H4) fun x ρ1 k ρ2 y d v u w Hf2 H2 fp2 fd fk' e' e'' e3' => by rw [e] at e'; cases e'; rw [e2] at e''; cases e''; rw [e3] at e3'; cases e3')
      | some y0 =>
        cases e4 : putD k0.1 x0 y0 with
        | none => exact .inl (key (fun v u w H3 => rSetL u w v H3 fun H4 => D.nx σ H4) fun x ρ1 k ρ2 y d v u w Hf2 H2 fp2 fd fk' e' e'' e3' e4' => by rw [e] at e'; cases e'; rw [e2] at e''; cases e''; rw [e3] at e3'; cases e3'; rw [e4] at e4'; cases e4')
        | some d0 =>
          unfold putD at e4
          split at e4
          · rename_i ds c
            split at e4
            · rename_i i ei
              split at e4
              · rename_i j ej
                split at e4
                · rename_i eo
                  cases e4
                  refine .inl (key (fun v u w H3 => rSetL u w v H3 fun H4 => D.nx σ H4) fun x ρ1 k ρ2 y d v u w Hf2 H2 fp2 fd fk' e' e'' e3' e4' G2 rv hu rk dis F2 nw fin => ?_)
                  rw [e] at e'; cases e'; rw [e2] at e''; cases e''; rw [e3] at e3'; cases e3'
                  have e4' : putD k0.1 x0 (DL.D.lst ds, Own.lst c) = some d := e4'
                  unfold putD at e4'
                  simp only [ei, ej, eo, if_true, Option.some.injEq] at e4'
                  subst e4'
                  rw [ei] at rk
                  obtain ⟨rfl, _⟩ := rk.isInt
                  obtain ⟨a0, vs, os, gi, k1, rfl, hH, r, hos, hfp, back⟩ := G2.lstAt e3 hu
                  have ec := sameOwn_ok eo
                  obtain ⟨os', gi', r', ho', l'⟩ := R.setAt (j := j) rv r (fun x m => (hos x m).trans ec.symm)
                  have hl := r.len.1
                  refine ⟨a0, vs, i, j, rfl, rfl, hH, by rw [hl]; exact ej, ?_⟩
                  have za : gi' a0 = 0 := by have q1 := dis a0; have q2 := hfp a0; rw [if_pos rfl] at q2; have := l' a0; have := G2.nd a0; omega
                  have nd : ∀ b, gi' b + k1 b ≤ 1 := fun b => by have q1 := dis b; have q2 := hfp b; have := l' b; split at q2 <;> omega
                  have G3 := back _ _ _ _ r' (fun x m => (ho' x m).trans ec) za nd
                  have hfa : fp2 a0 ≠ 0 := by have q2 := hfp a0; rw [if_pos rfl] at q2; omega
                  refine fin σ Hf2 _ _ G3 (F2.own hfa fun b hb => ?_)
                  by_cases z : fp2 b = 0
                  · refine nw b ?_
                    have hb : ((if b = a0 then 1 else 0) + gi' b) + k1 b ≠ 0 := hb
                    have q2 := hfp b; have := l' b
                    split at q2
                    · omega
                    · rename_i zz; rw [if_neg zz] at hb; omega
                  · exact F2.new b z
                · cases e4
              · cases e4
            · cases e4
          · rename_i kds
            split at e4
            · rename_i key0 ek eo
              split at e4
              · rename_i hlt
                cases e4
                refine .inr (key (fun v u w H3 => ∃ a H4, u = .ref a ∧ DPut H3 a w v H4 ∧ D.nx σ H4) fun x ρ1 k ρ2 y d v u w Hf2 H2 fp2 fd fk' e' e'' e3' e4' G2 rv hu rk dis F2 nw fin => ?_)
                rw [e] at e'; cases e'; rw [e2] at e''; cases e''; rw [e3] at e3'; cases e3'
                unfold putD at e4'
                simp only [ek, eo, if_pos hlt, Option.some.injEq] at e4'
                subst e4'
                obtain ⟨a0, kvs, os, gi, k1, rfl, hH, hk, r, hos, hfp, back⟩ := G2.dicAt e3 hu
                rw [eo] at rv
                obtain ⟨q1, q2⟩ := dput_rel (k := key0) hk r hos rv
                have hl : kvs.length = kds.length := by simpa using congrArg List.length hk
                refine ⟨a0, _, rfl, .inl ⟨kvs, key0, hH, key_rel rk ek, by omega, rfl⟩, ?_⟩
                have G3 := back _ _ _ _ q1 q2 mem_rep rfl fun b => by have q2 := hfp b; have := G2.nd b; simp only [Fp.z]; omega
                have hfa : fp2 a0 ≠ 0 := by have q2 := hfp a0; rw [if_pos rfl] at q2; omega
                refine fin σ Hf2 _ _ G3 (F2.own hfa fun b hb => ?_)
                have hb : ((if b = a0 then 1 else 0) + Fp.z b) + k1 b ≠ 0 := hb
                have q3 := hfp b
                exact F2.new b (by simp only [Fp.z] at hb; omega)
              · cases e4
            · cases e4
          · rename_i kds
            split at e4
            · rename_i key0 ek eo
              split at e4
              · rename_i hlt
                cases e4
                refine .inr (key (fun v u w H3 => ∃ a H4, u = .ref a ∧ DPut H3 a w v H4 ∧ D.nx σ H4) fun x ρ1 k ρ2 y d v u w Hf2 H2 fp2 fd fk' e' e'' e3' e4' G2 rv hu rk dis F2 nw fin => ?_)
                rw [e] at e'; cases e'; rw [e2] at e''; cases e''; rw [e3] at e3'; cases e3'
                unfold putD at e4'
                simp only [ek, eo, if_pos hlt, Option.some.injEq] at e4'
                subst e4'
                obtain ⟨a0, kvs, os, gi, k1, rfl, hH, hk, r, hos, hfp, back⟩ := G2.ditAt e3 hu
                rw [eo] at rv
                obtain ⟨q1, q2⟩ := dput_rel (k := key0) hk r hos rv
                have hl : kvs.length = kds.length := by simpa using congrArg List.length hk
                have ht : ∃ ks, k0.1 = .tup ks ∧ keysOf ks = some key0 := by
                  unfold tkeyOf at ek
                  split at ek
                  · exact ⟨_, by assumption, ek⟩
                  · cases ek
                obtain ⟨ks, ek1, ek2⟩ := ht
                rw [ek1] at rk
                obtain ⟨a1, vs, os1, rfl, ha, ha', rs, ho1⟩ := rk.isTup G2.sub
                have ev := keys_rel rs ek2
                subst ev
                refine ⟨a0, _, rfl, .inr ⟨kvs, key0, a1, hH, rfl, ha, by omega, rfl⟩, ?_⟩
                have G3 := back _ _ _ _ q1 q2 mem_rep rfl fun b => by have q2 := hfp b; have := G2.nd b; simp only [Fp.z]; omega
                have hfa : fp2 a0 ≠ 0 := by have q2 := hfp a0; rw [if_pos rfl] at q2; omega
                refine fin σ Hf2 _ _ G3 (F2.own hfa fun b hb => ?_)
                have hb : ((if b = a0 then 1 else 0) + Fp.z b) + k1 b ≠ 0 := hb
                have q3 := hfp b
                exact F2.new b (by simp only [Fp.z] at hb; omega)
              · cases e4
            · cases e4
          · cases e4
end
end DL
/-! isinstance; own exceptions: raised, caught, read. -/
namespace DL
open PySem PySem.Spec L2
/-! ### isinstance -/
inductive Tg where
  | b (n : String)
  | o (c : String)
  deriving DecidableEq
def tgD : D → Option Tg
  | .non => some (.b "NoneType")
  | .bl _ => some (.b "bool")
  | .int _ => some (.b "int")
  | .str _ => some (.b "str")
  | .tup _ => some (.b "tuple")
  | .tupk _ => some (.b "tuple")
  | .lst _ => some (.b "list")
  | .lsk _ => some (.b "list")
  | .dic _ => some (.b "dict")
  | .dit _ => some (.b "dict")
  | .obj c _ => some (.o c)
  | _ => none
def tgC : D → Option Tg
  | .ty n => some (.b n)
  | .cls c => some (.o c)
  | _ => none
def tgV (cl : String → Addr) : Tg → Value
  | .b n => .type n
  | .o c => .ref (cl c)
abbrev IT := List ((Tg × Tg) × Bool)
/-- what an own class on the left must say -/
structure ObT (K : PySem.W.Frag) (C : Addr) : Prop where
  cls : Cls K C
  ha : PySem.W.findIn K (.ref C) "__class__" = some (some (.builtin "object.__class__"))
  hn : PySem.W.specialIn K (.builtin "object.__class__") "__get__" = some (some (.builtin "getset_descriptor.__get__"))
  htk : PySem.W.takesIn K (.builtin "object.__class__") = some true
  hm : PySem.W.mroIn K C (.type "object") = some true
structure ITOk (K : PySem.W.Frag) (cl : String → Addr) (it : IT) (own : List String) : Prop where
  kit : ∀ e ∈ it, PySem.W.kitOne K (tgV cl e.1.1) (tgV cl e.1.2) = some e.2
  obs : ∀ c ∈ own, ObT K (cl c)
def isaAny (it : IT) (t : Tg) : List Tg → Option Bool
  | [] => some false
  | c :: r => match it.lookup (t, c) with
    | some true => some true
    | some false => isaAny it t r
    | none => none
def tgCs : List D → Option (List Tg)
  | [] => some []
  | d :: r => match tgC d, tgCs r with
    | some t, some ts => some (t :: ts)
    | _, _ => none
/-- isinstance of a value with that tag -/
def isaD (it : IT) (t : Tg) : D → Option Bool
  | .tup ds => (tgCs ds).bind (isaAny it t)
  | d => (tgC d).bind fun c => it.lookup (t, c)
def okOwn (own : List String) : Tg → Bool
  | .b _ => true
  | .o c => own.contains c
def gIsi (it : IT) (own : List String) : List DO → M DO := fun xs ρ => match xs with
  | [x, c] => (match tgD x.1 with
    | some t => if okOwn own t = true then (match isaD it t c.1 with | some b => .ok (.bl b, .no) ρ | none => .stuck) else .stuck
    | none => .stuck)
  | _ => .stuck
section
variable {K : PySem.W.Frag} {cl : String → Addr} {C : Pc} {W : WX} {Hf H : Hp} {v : V} {d : D} {w : Own} {f : Fp} {it : IT} {own : List String}
theorem lookup_mem {α β : Type} [BEq α] [LawfulBEq α] {k : α} {b : β} : ∀ {l : List (α × β)}, l.lookup k = some b → (k, b) ∈ l
  | [], h => by cases h
  | (a, c) :: l, h => by
    by_cases e : k == a
    · simp only [List.lookup, e] at h
      cases h
      rw [eq_of_beq e]
      exact List.mem_cons_self ..
    · have e : (k == a) = false := by simpa using e
      simp only [List.lookup, e] at h
      exact List.mem_cons_of_mem _ (lookup_mem h)
theorem tgC_rel {t : Tg} (r : R1 K cl Hf H v d w f) (h : tgC d = some t) : ClsV v (tgV cl t) := by
  cases r <;> cases h
  · exact .ty _
  · exact .own _
theorem tgCs_rel : ∀ {vs : List V} {ds : List D} {os : List Own} {f : Fp} {ts : List Tg}, Rs K cl Hf H vs ds os f → tgCs ds = some ts → Paired ClsV vs (ts.map (tgV cl))
  | vs, [], os, f, ts, r, h => by cases r; cases h; exact .nil
  | vs, d :: ds, os, f, ts, r, h => by
    cases r with
    | cons r rs hf =>
      unfold tgCs at h
      split at h
      · rename_i t ts' e1 e2
        cases h
        exact .cons (tgC_rel r e1) (tgCs_rel rs e2)
      · cases h
theorem isaAny_kit {t : Tg} (T : ITOk K cl it own) : ∀ {ts : List Tg} {b : Bool}, isaAny it t ts = some b → PySem.W.kitAny K (tgV cl t) (ts.map (tgV cl)) = some b
  | [], b, h => by cases h; rfl
  | c :: r, b, h => by
    unfold isaAny at h
    split at h
    · rename_i e
      cases h
      have := T.kit _ (lookup_mem e)
      show (match PySem.W.kitOne K (tgV cl t) (tgV cl c) with | some true => some true | some false => PySem.W.kitAny K (tgV cl t) (r.map (tgV cl)) | none => none) = _
      rw [this]
    · rename_i e
      have := T.kit _ (lookup_mem e)
      show (match PySem.W.kitOne K (tgV cl t) (tgV cl c) with | some true => some true | some false => PySem.W.kitAny K (tgV cl t) (r.map (tgV cl)) | none => none) = _
      rw [this]
      exact isaAny_kit T h
    · cases h
theorem tgD_rel {t : Tg} (T : ITOk K cl it own) (r : R1 K cl Hf H v d w f) (s : Same Hf H) (h : tgD d = some t) (ho : okOwn own t = true) : TyX K H v (tgV cl t) := by
  have obs : ∀ c, t = .o c → ObT K (cl c) := fun c e => by
    subst e
    exact T.obs c (by simpa [okOwn] using ho)
  cases r <;> (try cases h) <;> dsimp only [tgV]
  · exact .base .non
  · exact .base (.bl _)
  · exact .base (.int _)
  · exact .base (.str _)
  · rename_i h1 _ _ _
    rcases sqT_sub s h1 with (h2 | ⟨o, h2⟩) | ⟨o, its, n, h2, h3, _⟩
    · exact .base (.tup h2)
    · exact .fTuple h2
    · exact .kTuple h2 h3
  · rename_i h1 _ _ _
    rcases sqL_sub s h1 with (h2 | ⟨o, h2⟩) | ⟨o, its, n, h2, h3, _⟩
    · exact .base (.lst h2)
    · exact .base (.frz h2)
    · exact .kList h2 h3
  · rename_i h1 _ _ _; exact .base (.tup (s _ _ h1))
  · rename_i h1 _ _ _; exact .base (.lst (s _ _ h1))
  · rename_i h1 _ _ _ _; exact .base (.lst h1)
  · rename_i h1 _ _ _ _; exact .base (.dK (s _ _ h1))
  · rename_i h1 _ _ _ _ _; exact .base (.dK h1)
  · rename_i h1 _ _ _ _; exact .base (.dT (s _ _ h1))
  · rename_i h1 _ _ _ _ _; exact .base (.dT h1)
  · rename_i h1 _ _ _ _
    have o := obs _ rfl
    exact .base (.ins (s _ _ h1) o.cls o.ha o.hn o.htk o.hm)
  · rename_i h1 _ _ _ _ _
    have o := obs _ rfl
    exact .base (.ins h1 o.cls o.ha o.hn o.htk o.hm)
def rIsiA (K : PySem.W.Frag) : List V → Hp → VK → Prop := fun xs H Q => rIsi K xs H Q ∨ rIsiT K xs H Q
theorem call_isA {X : Cx} : CallR X (.builtin "isinstance") (rIsiA X.K) := call_isi.or call_isiT
theorem isaD_one {t : Tg} {c : D} {b : Bool} (h : isaD it t c = some b) : (∃ u, tgC c = some u ∧ it.lookup (t, u) = some b) ∨ ∃ ds ts, c = .tup ds ∧ tgCs ds = some ts ∧ isaAny it t ts = some b := by
  unfold isaD at h
  split at h
  · rename_i ds
    cases e : tgCs ds with
    | none => rw [e] at h; cases h
    | some ts => rw [e] at h; exact .inr ⟨ds, ts, rfl, e, h⟩
  · cases e : tgC c with
    | none => rw [e] at h; cases h
    | some u => rw [e] at h; exact .inl ⟨u, rfl, h⟩
theorem drc_isi (T : ITOk K cl it own) : DRC K cl C W true true (rIsiA K) (gIsi it own) := by
  intro σ H Q ρ Hf fp xs vs f1 G r w
  unfold gIsi at w
  split at w
  · rename_i x c
    split at w
    · rename_i t et
      split at w
      · rename_i ho
        split at w
        · rename_i b eb
          cases r with
          | cons r1 rs hf =>
            cases rs with
            | cons r2 rn hf' =>
              cases rn
              have ty := tgD_rel T r1 G.sub et ho
              have fin := POk.keep w G (.bl b fun _ => rfl : R1 K cl Hf H (.bl b) (.bl b) .no Fp.z)
              rcases isaD_one eb with ⟨u, e1, e2⟩ | ⟨ds, ts, e1, e2, e3⟩
              · exact .inl ⟨_, _, _, _, b, rfl, tgC_rel r2 e1, ty, T.kit _ (lookup_mem e2), fin⟩
              · dsimp only at r2
                rw [e1] at r2
                obtain ⟨a, us, os, rfl, ha, ha', rs, ho⟩ := r2.isTup G.sub
                exact .inr ⟨_, a, us, _, _, b, rfl, ha, tgCs_rel rs e2, ty, isaAny_kit T e3, fin⟩
        · exact False.elim w
      · exact False.elim w
    · exact False.elim w
  · exact False.elim w
end
/-! ### raise C(e, ..) -/
/-- the facts of an exception's class: its fields -/
structure ExK (K : PySem.W.Frag) (C : Addr) (fns : List String) : Prop where
  oex : OexC K C
  no : ∀ f ∈ fns, PySem.W.findIn K (.ref C) (Str.ofString f) = some none
/-- the promise of an own __init__ that stores its arguments -/
def spE (K : PySem.W.Frag) (fns : List String) : Sp := fun vs H Q E => ∃ (a C : Addr) (ws : List V), vs = .ref a :: ws ∧ ws.length = fns.length ∧ ExK K C fns ∧ H a = some (exo a C none) ∧
  ∀ dx, H dx = none → Q .non (upd (upd H dx (exd dx ((fns.map Str.ofString).zip ws).reverse)) a (exo a C (some dx)))
section
variable {P : Program} {w : World} {K : PySem.W.Frag} {mg : Str → Option Value} {base : Heap}
theorem fnE1 {x qual : Str} {st : Stmt} {f : Addr} {fd : FuncData} {ps : List Str} {k : Nat} {g sn an : Str} {fn : String} {p1 p2 p3 pos : Pos} (F : Fun K x qual st f fd) (S : FnScope [sn, an] ps (defScope st)) (hn : ps.length = 2) (hg : g = Str.ofString fn)
    (hb : defBody st = [.Assign [.Attribute (.Name sn p1) g p2] (.Name an p3) pos])
    (hd : (sn == ("__debug__" : Str)) = false := by decide) (hcd : (sn == ("__classdict__" : Str)) = false := by decide) (hd' : (an == ("__debug__" : Str)) = false := by decide) (hcd' : (an == ("__classdict__" : Str)) = false := by decide)
    (hv : (defScope st).names.lookup sn = some .local := by rfl) (hv' : (defScope st).names.lookup an = some .local := by rfl)
    (hs : ∀ env : PySem.Env, swapsWith (.Name an p3) (some (.Attribute (.Name sn p1) g p2)) pos.line env = pure false := by intro _; rfl) :
    FnOk P w K mg base (L2.CX P w) (k + 1) f fd ps (spE K [fn]) := by
  subst hg
  refine F.okX S (fun vs H Q E h => ?_) fun cdv A outer s H vs Q E hr h => ?_
  · obtain ⟨a, C, ws, rfl, hl, _⟩ := h
    rw [hn, List.length_cons, hl]; rfl
  · obtain ⟨a, C, ws, rfl, hl, T, ha, q⟩ := h
    match ws, hl with
    | [y], _ =>
      rw [hb]
      refine ⟨_, pss_one (ps_ost (pe_var (i := 0) rfl (.inl hv) hd hcd) (pe_var (i := 1) rfl (.inl hv') hd' hcd') (hs _)), ⟨y, rfl, .ref a, rfl, a, C, rfl, T.oex, T.no fn (List.mem_singleton.mpr rfl), .inl ⟨ha, fun dx hdx hne => q dx hdx⟩⟩⟩
theorem fnE2 {x qual : Str} {st : Stmt} {f : Addr} {fd : FuncData} {ps : List Str} {k : Nat} {g g' sn an bn : Str} {fn fn' : String} {p1 p2 p3 pos p1' p2' p3' pos' : Pos} (F : Fun K x qual st f fd) (S : FnScope [sn, an, bn] ps (defScope st)) (hn : ps.length = 3) (hg : g = Str.ofString fn) (hg' : g' = Str.ofString fn')
    (hb : defBody st = [.Assign [.Attribute (.Name sn p1) g p2] (.Name an p3) pos, .Assign [.Attribute (.Name sn p1') g' p2'] (.Name bn p3') pos'])
    (hd : (sn == ("__debug__" : Str)) = false := by decide) (hcd : (sn == ("__classdict__" : Str)) = false := by decide) (hd' : (an == ("__debug__" : Str)) = false := by decide) (hcd' : (an == ("__classdict__" : Str)) = false := by decide)
    (hd'' : (bn == ("__debug__" : Str)) = false := by decide) (hcd'' : (bn == ("__classdict__" : Str)) = false := by decide)
    (hv : (defScope st).names.lookup sn = some .local := by rfl) (hv' : (defScope st).names.lookup an = some .local := by rfl) (hv'' : (defScope st).names.lookup bn = some .local := by rfl)
    (hs : ∀ env : PySem.Env, swapsWith (.Name an p3) (some (.Attribute (.Name sn p1) g p2)) pos.line env = pure false := by intro _; rfl)
    (hs' : ∀ env : PySem.Env, swapsWith (.Name bn p3') (some (.Attribute (.Name sn p1') g' p2')) pos'.line env = pure false := by intro _; rfl) :
    FnOk P w K mg base (L2.CX P w) (k + 1) f fd ps (spE K [fn, fn']) := by
  subst hg hg'
  refine F.okX S (fun vs H Q E h => ?_) fun cdv A outer s H vs Q E hr h => ?_
  · obtain ⟨a, C, ws, rfl, hl, _⟩ := h
    rw [hn, List.length_cons, hl]; rfl
  · obtain ⟨a, C, ws, rfl, hl, T, ha, q⟩ := h
    match ws, hl with
    | [y, z], _ =>
      rw [hb]
      refine ⟨_, pss_cons (ps_ost (pe_var (i := 0) rfl (.inl hv) hd hcd) (pe_var (i := 1) rfl (.inl hv') hd' hcd') (hs _)) (pss_one (ps_ost (pe_var (i := 0) rfl (.inl hv) hd hcd) (pe_var (i := 2) rfl (.inl hv'') hd'' hcd'') (hs' _))),
        ⟨y, rfl, .ref a, rfl, a, C, rfl, T.oex, T.no fn (List.mem_cons_self ..), .inl ⟨ha, fun dx hdx hne => ⟨z, rfl, .ref a, rfl, a, C, rfl, T.oex, T.no fn' (List.mem_cons_of_mem _ (List.mem_cons_self ..)), .inr ⟨dx, [(Str.ofString fn, y)], upd_same, ?_, by show 1 ≤ 900; decide, ?_⟩⟩⟩⟩⟩
      · rw [upd_ne hne, upd_same]
      · have := q dx hdx
        have e : upd (upd (upd H dx (exd dx [(Str.ofString fn, y)])) a (exo a C (some dx))) dx (exd dx [(Str.ofString fn', z), (Str.ofString fn, y)]) = upd (upd H dx (exd dx ((([fn, fn'] : List String).map Str.ofString).zip [y, z]).reverse)) a (exo a C (some dx)) := by
          funext b
          by_cases e1 : b = a
          · subst e1; rw [upd_ne hne.symm, upd_same, upd_same]
          · by_cases e2 : b = dx
            · subst e2; rw [upd_same, upd_ne e1, upd_same]; rfl
            · rw [upd_ne e2, upd_ne e1, upd_ne e2, upd_ne e1, upd_ne e2]
        rw [e]
        exact this
end
def mRaise (c : String) (fns : List String) (fs : M (List DO)) : M Fl := M.bind fs fun xs ρ => if xs.length = fns.length ∧ fns.length ≤ 1000 then (if xs.all (fun x => match x.2 with | .no => true | _ => false) = true then .err c (fns.zip (xs.map (·.1))).reverse ρ else .stuck) else .stuck
section
variable {X : Cx} {cl : String → Addr} {C : Pc} {W : WX} {p p1 p2 o o1 o2 : Bool} {e a b c value : Expr} {es : List Expr} {fe fa fk fv : M DO} {ft : M Bool} {fs : M (List DO)} {pos : Pos} {tab : CT} {pl : Pl}
theorem qs_raise {x : Str} {cn : String} {k : Nat} {fI : Addr} {fd : FuncData} {ps : List Str} {fns : List String} {p' pos' : Pos} (T : ExK X.K (cl cn) fns) (iC : PySem.W.findIn X.K (.ref (cl cn)) "__init__" = some (some (.ref fI))) (tI : PySem.W.typeIn X.K (.ref fI) = some (.type "function"))
    (F : FnOk X.prog X.w X.K X.mg X.base (L2.CX X.prog X.w) k fI fd ps (spE X.K fns)) (hr : Room (k + 1) X.A) (hb : Binds X.K fd ps []) (tk : Takes X W) (hg : Gl X x) (hm : X.mg x = some (.ref (cl cn))) (ha : QA X cl C W p o (e :: es) fs) (hc : X.calm = true := by rfl)
    (hdb : (x == ("__debug__" : Str)) = false := by decide) (he : starEach (e :: es) X.env = (false, eval e X.env) :: starEach es X.env := by rfl) (hpl : (backTo pos' (starEach es X.env)).any (·.1) = false := by rfl) :
    QS X cl C W (.Raise (some (.Call (.Name x p') (e :: es) [] pos')) none pos) (mRaise cn fns fs) := by
  obtain ⟨t, pe, dn⟩ := ha
  refine ⟨_, ps_raise hc tk (pmk_oex T.oex iC tI F hr hb .nil (fun pins σ H s e s' I c => passes_call tk (fun _ _ _ _ h => h.elim) pins σ H s e s' I c) hg hm pe hdb he hpl), fun σ H D ρ Hf fp G w => ?_⟩
  refine dn σ H _ ρ Hf fp G ?_
  unfold mRaise M.bind at w
  cases e : fs ρ with
  | stuck => rw [e] at w; exact w
  | err c fs' ρ1 => rw [e] at w; exact w σ
  | ok xs ρ1 =>
    rw [e] at w
    intro vs Hf1 H1 fp1 fd1 G1 r1 F1 c1 q1
    dsimp only at w
    split at w
    · rename_i hl
      split at w
      · rename_i hno
        have lv : vs.length = fns.length := by have := r1.len.1; rw [List.length_map] at this; omega
        refine ⟨by omega, fun a ha => ⟨a, cl cn, vs, by simp, lv, T, upd_same, fun dx hdx => ?_⟩⟩
        have hda : dx ≠ a := fun h => by rw [h, upd_same] at hdx; cases hdx
        have hd1 : H1 dx = none := by rwa [upd_ne hda] at hdx
        refine ⟨rfl, dx, ((fns.map Str.ofString).zip vs).reverse, upd_same, by rw [upd_ne hda, upd_same], hd1, ?_⟩
        have eh : upd (del (upd (upd (upd H1 a (exo a (cl cn) none)) dx (exd dx ((fns.map Str.ofString).zip vs).reverse)) a (exo a (cl cn) (some dx))) a) dx (.xd ((fns.map Str.ofString).zip vs).reverse) = upd H1 dx (.xd ((fns.map Str.ofString).zip vs).reverse) := by
          funext b
          by_cases e1 : b = dx
          · subst e1; rw [upd_same, upd_same]
          · rw [upd_ne e1, upd_ne e1]
            by_cases e2 : b = a
            · subst e2; rw [del_same, ha]
            · rw [del_ne e2, upd_ne e2, upd_ne e1, upd_ne e2]
        rw [eh]
        have hno' : ∀ o ∈ xs.map (·.2), o = Own.no := fun o m => by
          obtain ⟨x, hx, rfl⟩ := List.mem_map.mp m
          have := List.all_eq_true.mp hno x hx
          cases hh : x.2 with
          | no => rfl
          | lst _ => rw [hh] at this; cases this
          | obj _ => rw [hh] at this; cases this
        have G2 := G1.allocF hd1 (.xd ((fns.map Str.ofString).zip vs).reverse)
        have F2 := F1.trans (Fr.allocF hd1 (G1.sub.free hd1) (.xd ((fns.map Str.ofString).zip vs).reverse))
        have k1 : (((fns.map Str.ofString).zip vs).reverse).map (·.1) = ((fns.zip (xs.map (·.1))).reverse).map fun p => Str.ofString p.1 := by
          rw [List.map_reverse, List.map_reverse]
          congr 1
          rw [List.map_fst_zip (by simp [lv])]
          rw [show (fun p : String × DL.D => Str.ofString p.1) = Str.ofString ∘ (·.1) from rfl, ← List.map_map, List.map_fst_zip (by simp [hl.1])]
        have k2 : (((fns.map Str.ofString).zip vs).reverse).map (·.2) = vs.reverse := by rw [List.map_reverse, List.map_snd_zip (by simp [lv])]
        have k3 : ((fns.zip (xs.map (·.1))).reverse).map (·.2) = (xs.map (·.1)).reverse := by rw [List.map_reverse, List.map_snd_zip (by simp [hl.1])]
        have rv : ∀ {vs : List V} {ds : List DL.D} {os : List Own} {f : Fp}, Rs X.K cl Hf1 H1 vs ds os f → (∀ o ∈ os, o = .no) → Rs X.K cl Hf1 H1 vs.reverse ds.reverse (List.replicate ds.length .no) Fp.z := by
          intro vs
          induction vs with
          | nil => intro ds os f r ho; cases r; exact .nil fun _ => rfl
          | cons v vs ih =>
            intro ds os f r ho
            cases r with
            | @cons f g _ _ _ _ ds o os r rs hf =>
              have := ho o (List.mem_cons_self ..)
              subst this
              have i1 := ih rs fun o m => ho o (List.mem_cons_of_mem _ m)
              rw [List.reverse_cons, List.reverse_cons, List.length_cons, List.replicate_succ']
              exact (i1.append r.one).fp fun b => by simp [Fp.z, r.zero_of_no b]
        have r2 := rv r1 hno'
        exact w σ _ _ fp1 dx _ _ Fp.z G2 F2 upd_same upd_same k1 (by rw [k2, k3]; exact r2.to (Same.newf (G1.sub.free hd1) _) fun b hb => absurd rfl hb) mem_rep
      · exact False.elim w
    · exact False.elim w
end
end DL
/-! try / except C as e: e.field, isinstance(e, ..). -/
namespace DL
open PySem PySem.Spec L2
section
variable (K : PySem.W.Frag) (cl : String → Addr) (C : Pc) (W : WX)
def sStar (g : M Fl) : TS := fun D σ H => ∃ ρ Hf fp, Good K cl C Hf H σ ρ fp ∧ WzS K cl C W Hf H fp (g ρ) (PSk K cl C Hf H fp D)
/-- the fields of the exception that the suite holds -/
def ExF (fs : List (String × D)) (d : Option Addr) (Hf : Hp) : Prop := ∃ dx fvs os f, d = some dx ∧ Hf dx = some (.xd fvs) ∧ fvs.map (·.1) = fs.map (fun p => Str.ofString p.1) ∧ Rs K cl Hf Hf (fvs.map (·.2)) (fs.map (·.2)) os f ∧ ∀ o ∈ os, o = .no
end
theorem QSs.star {X : Cx} {cl : String → Addr} {C : Pc} {W : WX} {st : List Stmt} {g : M Fl} (h : QSs X cl C W st g) : PSs X st (sStar X.K cl C W g) := by
  obtain ⟨t, pe, dn⟩ := h
  exact ⟨fun pins s σ H D I ⟨ρ, Hf, fp, G, w⟩ => pe.run pins s σ H D I (dn σ H D ρ Hf fp G w)⟩
/-- the context of the suite: slot i holds the exception a, its dict d -/
def Pc.exc (K : PySem.W.Frag) (cl : String → Addr) (C : Pc) (i : Nat) (a : Addr) (d : Option Addr) (fs : List (String × D)) : Pc :=
  ⟨(i, .ref a) :: C.pin, fun Hf => C.fac Hf ∧ ExF K cl fs d Hf, fun {A B} s h => ⟨C.mono s h.1, by
    obtain ⟨dx, fvs, os, f, h1, h2, h3, h4, h5⟩ := h.2
    exact ⟨dx, fvs, os, f, h1, s _ _ h2, h3, h4.to s fun b hb => absurd (h4.zeros_of_no h5 b) hb, h5⟩⟩⟩
section
variable {K : PySem.W.Frag} {cl : String → Addr} {C : Pc} {W : WX} {Hf H : Hp} {σ : L2.St} {ρ : Env} {fp : Fp}
theorem Good.gone {i : Nat} {C' : Pc} (G : Good K cl C Hf H σ ρ fp) (hp : (C'.pin.all fun p => p.1 != i) = true) (hpin : ∀ p ∈ C'.pin, p ∈ C.pin) (hf : C.fac Hf → C'.fac Hf) : ∃ fp', Good K cl C' Hf H (σ.set i none) (ρ.set i none) fp' ∧ ∀ b, fp' b ≤ fp b := by
  obtain ⟨k, e, l⟩ := G.env.drop i
  have e2 : EnvR K cl Hf H (σ.set i none) (ρ.set i none) k := by
    by_cases hi : i < ρ.length
    · exact e.any (i := i) (by simp [hi]) none
    · rw [List.set_eq_of_length_le (by rw [G.env.len]; omega)]; exact e
  refine ⟨k, ⟨G.sub, e2, fun b => Nat.le_trans (l b) (G.nd b), fun p m => ?_, hf G.fac⟩, l⟩
  have := List.all_eq_true.mp hp p m
  rw [List.getElem?_set_ne (by simpa using Ne.symm (by simpa using this))]
  exact G.pin p (hpin p m)
end
abbrev XM := List (String × Bool)
/-- i: the name's slot; xm: is the class caught; h: the suite, by the class and the fields -/
def mTry (i : Nat) (xm : XM) (g : M Fl) (h : String → List (String × D) → M Fl) : M Fl := fun ρ => match g ρ with
  | .err c fs ρ1 => (match xm.lookup c with
    | some true => if i < ρ1.length then (match h c fs (ρ1.set i (some (.hole, .no))) with
      | .ok a ρ2 => .ok a (ρ2.set i none)
      | _ => .stuck) else .stuck
    | some false => .err c fs ρ1
    | none => .stuck)
  | r => r
section
variable {X : Cx} {cl : String → Addr} {C : Pc} {W : WX} {p p1 p2 o o1 o2 : Bool} {e a b c value : Expr} {es : List Expr} {fe fa fk fv : M DO} {ft : M Bool} {fs : M (List DO)} {pos : Pos}
theorem qs_try_as (i : Nat) {x n : Str} {cv : Value} {body suite : List Stmt} {b₀ : Stmt} {np pos' : Pos} {xm : XM} {g : M Fl} {h : String → List (String × D) → M Fl} (hxm : ∀ e ∈ xm, PySem.W.exmOne X.K (.ref (cl e.1)) cv = some e.2) (hc : Names X x cv) (tk : Takes X W) (hN : X.N.Nodup)
    (hb : ∀ (W : WX) (pn : List (Addr × Obj)) (xe : Value → Shared → Prop), Takes (X.tr pn xe) W → PassesOwn (model X.prog X.w) X.A X.env xe → QSs (X.tr pn xe) cl C W body g)
    (hsu : ∀ (a : Addr) (oe : Obj) (c0 : String) (d : Option Addr) (pn : List (Addr × Obj)) (fs0 : List (String × D)), Zc (.ref (cl c0)) d oe → (∃ vs, oe.data = .fields vs) → xm.lookup c0 = some true → QSs (X.suite a ((a, oe) :: pn)) cl (C.exc X.K cl i a d fs0) W0 (b₀ :: suite) (h c0 fs0))
    (hi : X.N[i]? = some n := by rfl) (hp : (C.pin.all fun p => p.1 != i) = true := by rfl) (hs : X.stack = X.env :: X.outer := by rfl) (hf : X.env.frame = some X.env.locals := by rfl) (hln : X.env.kindOf n = some .local := by rfl) :
    QS X cl C W (.Try body [.ExceptHandler (some (.Name x np)) (some n) (b₀ :: suite) pos'] [] [] pos) (mTry i xm g h) := by
  refine ⟨_, ps_try_as (tb := fun W => sStar X.K cl C W g) (ts := fun a cls d D σ H => ∃ c0 fs0, cls = .ref (cl c0) ∧ xm.lookup c0 = some true ∧ sStar X.K cl (C.exc X.K cl i a d fs0) W0 (h c0 fs0) D σ H) hs hf hN hi hln hc tk (fun W pn xe tk' po => (hb W pn xe tk' po).star) (fun a oe cls d pn hz hfl => ⟨fun pins s σ H D I ⟨c0, fs0, ec, ex, q⟩ => ?_⟩), fun σ H D ρ Hf fp G w => ?_⟩
  · subst ec
    exact (hsu a oe c0 d pn fs0 hz hfl ex).star.run pins s σ H D I q
  · refine ⟨ρ, Hf, fp, G, ?_⟩
    unfold mTry at w
    cases eg : g ρ with
    | stuck => rw [eg] at w; exact w
    | ok a ρ1 => rw [eg] at w; exact w
    | err c fs ρ1 =>
      rw [eg] at w
      dsimp only at w
      intro σ' Hf' H' fp' dx fvs os f G' F' hx hx' hk hr ho
      cases ex : xm.lookup c with
      | none => rw [ex] at w; exact False.elim w
      | some b =>
        rw [ex] at w
        refine ⟨b, hxm _ (lookup_mem ex), fun eb a ha => ?_, fun eb => ?_⟩
        · subst eb
          dsimp only at w
          split at w
          · rename_i hlt
            refine ⟨c, fs, rfl, ex, ?_⟩
            obtain ⟨fp2, G2, l2⟩ := G'.set (i := i) (v := .ref a) (d := .hole) (o := .no) (f := Fp.z) (.hole _ fun _ => rfl) (fun b => by have := G'.nd b; simp [Fp.z]; omega) hp
            have hlσ : i < σ'.length := by rw [G'.env.len]; exact hlt
            have hrf : Rs X.K cl Hf' Hf' (fvs.map (·.2)) (fs.map (·.2)) os f := hr.to (Same.refl _) fun b hb => absurd (hr.zeros_of_no ho b) hb
            have G3 : Good X.K cl (C.exc X.K cl i a (some dx) fs) Hf' H' (σ'.set i (some (.ref a))) (ρ1.set i (some (.hole, .no))) fp2 := ⟨G2.sub, G2.env, G2.nd, fun p m => by
              rcases List.mem_cons.mp m with e | m
              · rw [e]; simp [hlσ]
              · exact G2.pin p m, G2.fac, dx, fvs, os, f, rfl, hx', hk, hrf, ho⟩
            have F2 : Fr Hf H fp Hf' H' fp2 := F'.less fun b => by have := l2 b; simp [Fp.z] at this; exact this
            refine ⟨_, Hf', fp2, G3, ?_⟩
            have back : ∀ {σ4 : L2.St} {ρ4 : Env} {Hf4 H4 : Hp} {fp4 : Fp}, Good X.K cl (C.exc X.K cl i a (some dx) fs) Hf4 H4 σ4 ρ4 fp4 → ∃ fp5, Good X.K cl C Hf4 H4 (σ4.set i none) (ρ4.set i none) fp5 ∧ ∀ b, fp5 b ≤ fp4 b := fun {σ4 ρ4 Hf4 H4 fp4} G4 =>
              G4.gone hp (fun p m => List.mem_cons_of_mem _ m) fun h => h.1
            cases eh : h c fs (ρ1.set i (some (.hole, .no))) with
            | stuck => rw [eh] at w; exact False.elim w
            | err _ _ _ => rw [eh] at w; exact False.elim w
            | ok a4 ρ2 =>
              rw [eh] at w
              cases a4 with
              | nx =>
                intro σ4 Hf4 H4 fp4 G4 F4
                obtain ⟨fp5, G5, l5⟩ := back G4
                exact w _ Hf4 H4 fp5 G5 ((F2.trans F4).less l5)
              | bk =>
                intro σ4 Hf4 H4 fp4 G4 F4
                obtain ⟨fp5, G5, l5⟩ := back G4
                exact w _ Hf4 H4 fp5 G5 ((F2.trans F4).less l5)
              | ct =>
                intro σ4 Hf4 H4 fp4 G4 F4
                obtain ⟨fp5, G5, l5⟩ := back G4
                exact w _ Hf4 H4 fp5 G5 ((F2.trans F4).less l5)
              | rt x =>
                intro σ4 v Hf4 H4 fp4 fd G4 r4 F4 d4 n4
                obtain ⟨fp5, G5, l5⟩ := back G4
                refine w (σ4.set i none) v Hf4 H4 fp5 fd G5 r4 ((F2.trans F4).less l5) (fun b => by have := d4 b; have := l5 b; omega) fun b hb => ?_
                rcases n4 b hb with q | q
                · exact F2.new b q
                · exact .inr (F2.there b q)
          · exact False.elim w
        · subst eb
          exact w σ' Hf' H' fp' dx fvs os f G' F' hx hx' hk hr ho
/-! in the suite -/
def mXf (fs : List (String × D)) (f : String) : M DO := M.opt ((fs.lookup f).map fun d => (d, Own.no))
theorem qx_xf (i : Nat) {a : Addr} {c0 : String} {oe : Obj} {d : Option Addr} {pn : List (Addr × Obj)} {fs0 : List (String × D)} {n : Str} {f : String} {p' : Pos} (T : XfC X.K (cl c0)) (hno : PySem.W.findIn X.K (.ref (cl c0)) (Str.ofString f) = some none) (hz : Zc (.ref (cl c0)) d oe) (hf : ∃ vs, oe.data = .fields vs)
    (hN : X.N[i]? = some n := by rfl) (hv : Vis X.env.scope n := by first | exact Or.inl rfl | exact Or.inr (Or.inl rfl) | exact Or.inr (Or.inr rfl)) (hd : (n == ("__debug__" : Str)) = false := by decide) (hcd : (n == ("__classdict__" : Str)) = false := by decide)
    (hb : attributeBase (.Name n p') (Str.ofString f) X.env (eval (.Name n p') X.env) = eval (.Name n p') X.env := by rfl) :
    QX (X.suite a ((a, oe) :: pn)) cl (C.exc X.K cl i a d fs0) W true true (.Attribute (.Name n p') (Str.ofString f) pos) (mXf fs0 f) := by
  refine ⟨_, pe_xf T hno hz hf (pe_var (X := X.suite a ((a, oe) :: pn)) (i := i) hN hv hd hcd) hb, fun σ H Q ρ Hf fp G w => ?_⟩
  unfold mXf M.opt at w
  cases e : fs0.lookup f with
  | none => rw [e] at w; exact False.elim w
  | some dd =>
    rw [e] at w
    have hp := G.pin (i, .ref a) (List.mem_cons_self ..)
    obtain ⟨_, dx, fvs, os, ff, h1, h2, h3, h4, h5⟩ := G.fac
    obtain ⟨v, ov, g, q1, q2, _, q4⟩ := (lookup_rel (k := f) (g := fun _ => .no) h3 h4).2 dd e
    have z := h4.zeros_of_no h5
    have r : R1 X.K cl Hf H v dd .no Fp.z := by
      have zg : ∀ b, g b = 0 := fun b => by have := q4 b; have := z b; omega
      have e2 := q2.no_of_zero zg
      subst e2
      exact (q2.to (Same.refl _) fun b hb => absurd (zg b) hb).fp zg
    exact ⟨.ref a, hp, rfl, rfl, dx, fvs, v, h1, G.sub _ _ h2, q1, POk.keep w G r⟩
/-- what the class of the exception must say -/
structure ExI (K : PySem.W.Frag) (C : Addr) : Prop where
  cl : (PySem.W.clsIn K C).isSome = true
  ga : PySem.W.findIn K (.ref C) "__getattribute__" = some (some (.builtin "BaseException.__getattribute__"))
  gt : PySem.W.findIn K (.ref C) "__getattr__" = some none
  sb : PySem.W.subIn K (.ref C) (.type "BaseException") = some true
  ha : PySem.W.findIn K (.ref C) "__class__" = some (some (.builtin "object.__class__"))
  hn : PySem.W.specialIn K (.builtin "object.__class__") "__get__" = some (some (.builtin "getset_descriptor.__get__"))
  ht : PySem.W.takesIn K (.builtin "object.__class__") = some true
  hm : PySem.W.mroIn K C (.type "object") = some true
def rIsX (K : PySem.W.Frag) (C a : Addr) (d : Option Addr) : List V → Hp → VK → Prop := fun xs H Q => ∃ (c : V) (dd : Addr) (fvs : List (Str × V)) (b : Bool), xs = [.ref a, c] ∧ d = some dd ∧ H dd = some (.xd fvs) ∧
  ((∃ u, ClsV c u ∧ PySem.W.kitOne K (.ref C) u = some b) ∨ ∃ tp cs us, c = .ref tp ∧ H tp = some (.tup cs) ∧ Paired ClsV cs us ∧ PySem.W.kitAny K (.ref C) us = some b) ∧ Q (.bl b) H
theorem call_isX {a D : Addr} {oe : Obj} {d : Option Addr} {pn : List (Addr × Obj)} (T : ExI X.K D) (hz : Zc (.ref D) d oe) (hf : ∃ vs, oe.data = .fields vs) : CallR (X.suite a ((a, oe) :: pn)) (.builtin "isinstance") (rIsX X.K D a d) := by
  intro pins s σ H xs us Q I r h
  obtain ⟨c, dd, fvs, b, rfl, rfl, hx, e, q⟩ := h
  obtain ⟨u1, u2, rfl, r1, r2⟩ := vals2 r
  cases (show u1 = Value.ref a from r1)
  obtain ⟨hget, _⟩ := I.pin (a, oe) (List.mem_append.mpr (.inl List.mem_cons_self))
  obtain ⟨vs, hv⟩ := hf
  have hxo : ObjOk X.prog X.w H s.heap dd (.xd fvs) := I.hok dd _ hx
  obtain ⟨mA, hns, hr⟩ := hxo
  obtain ⟨od, ho, hl⟩ := lookIn_ns hns
  have J : PySem.W.InstAt s.heap a oe D (some od) := ⟨hget, hz.1, by unfold PySem.W.notCls; rw [hv] <;> rfl, by rw [hz.2]; exact ho⟩
  have Z : PySem.W.KitX X.K (.ref a) (.ref D) (fun h => PySem.W.InstAt h a oe D (some od)) := PySem.W.kitx_exc T.cl T.ga T.gt T.sb T.ha T.hn T.ht T.hm
  rcases e with ⟨u, k, e⟩ | ⟨tp, cs, ws, rfl, htp, k, e⟩
  · have e2 := k.eq r2
    subst e2
    exact PySem.W.kia_one Z I.kIn J e (fun z => nomatch z) fun tk => ⟨.bl b, H, I.tok tk, rfl, q⟩
  · cases (show u2 = Value.ref tp from r2)
    obtain ⟨_, its, rv, o, h1, h2, n, h3⟩ := (show ObjOk X.prog X.w H s.heap tp (.tup cs) from I.hok tp _ htp)
    have e3 := ClsV.all k rv
    subst e3
    obtain ⟨oc, odi, dt, sl⟩ := o
    simp only at h2 h3
    subst h2 h3
    exact PySem.W.kia_tup Z I.kIn J h1 e (fun z => nomatch z) fun tk => ⟨.bl b, H, I.tok tk, rfl, q⟩
def mIsX (it : IT) (c0 : String) (fc : M DO) : M DO := M.bind fc fun c ρ => match isaD it (.o c0) c.1 with
  | some b => .ok (.bl b, .no) ρ
  | none => .stuck
/-- isinstance(e, c), e the exception of the suite -/
theorem qx_isX (i : Nat) {it : IT} {own : List String} {a : Addr} {c0 : String} {oe : Obj} {d : Option Addr} {pn : List (Addr × Obj)} {fs0 : List (String × D)} {n : Str} {p' pn' : Pos} (TI : ITOk X.K cl it own) (T : ExI X.K (cl c0)) (hz : Zc (.ref (cl c0)) d oe) (hf : ∃ vs, oe.data = .fields vs)
    (hg : Gl X "isinstance") (hm : X.mg "isinstance" = none) (hcx : QX (X.suite a ((a, oe) :: pn)) cl (C.exc X.K cl i a d fs0) W p o c fa)
    (hN : X.N[i]? = some n := by rfl) (hv : Vis X.env.scope n := by first | exact Or.inl rfl | exact Or.inr (Or.inl rfl) | exact Or.inr (Or.inr rfl)) (hd : (n == ("__debug__" : Str)) = false := by decide) (hcd : (n == ("__classdict__" : Str)) = false := by decide)
    (hbv : bootBuiltins "isinstance" = some (.builtin "isinstance") := by rfl)
    (he : starEach [.Name n pn', c] X.env = (false, eval (.Name n pn') X.env) :: starEach [c] X.env := by rfl) (he2 : starEach [c] X.env = [(false, eval c X.env)] := by rfl) (hpl : (backTo pos (starEach [c] X.env)).any (·.1) = false := by rfl) :
    QX (X.suite a ((a, oe) :: pn)) cl (C.exc X.K cl i a d fs0) W p true (.Call (.Name "isinstance" p') [.Name n pn', c] [] pos) (mIsX it c0 fa) := by
  obtain ⟨t, pe, dn⟩ := hcx
  refine ⟨_, pe_callB (X := X.suite a ((a, oe) :: pn)) (call_isX T hz hf) hg hm hbv (pa_cons (pe_var (X := X.suite a ((a, oe) :: pn)) (i := i) hN hv hd hcd) (pa_cons pe pa_nil he2) he) (by decide) (by decide) he hpl, fun σ H Q ρ Hf fp G w => ?_⟩
  refine ⟨.ref a, G.pin (i, .ref a) (List.mem_cons_self ..), dn.bind G w fun y ρ1 v Hf1 H1 fp1 fd G1 r1 F1 c1 q1 w1 => ?_⟩
  split at w1
  · rename_i b eb
    obtain ⟨_, dx, fvs, os, ff, h1, h2, h3, h4, h5⟩ := G1.fac
    have fin := POk.no w1 G1 (.bl b fun _ => rfl : R1 X.K cl Hf1 H1 (.bl b) (.bl b) .no Fp.z) F1 q1
    refine ⟨v, dx, fvs, b, rfl, h1, G1.sub _ _ h2, ?_, fin⟩
    rcases isaD_one eb with ⟨u, e1, e2⟩ | ⟨ds, ts, e1, e2, e3⟩
    · exact .inl ⟨_, tgC_rel r1 e1, TI.kit _ (lookup_mem e2)⟩
    · rw [e1] at r1
      obtain ⟨tp, us, os, rfl, ha, ha', rs, ho⟩ := r1.isTup G1.sub
      exact .inr ⟨tp, us, _, rfl, ha, tgCs_rel rs e2, isaAny_kit TI e3⟩
  · exact False.elim w1
end
end DL
/-! Calls that only look: all arguments borrowed. -/
namespace DL
open PySem PySem.Spec L2
/-- objects that may be owned -/
def mutO : HO → Bool
  | .lst _ => true
  | .dK _ => true
  | .dT _ => true
  | .ins _ _ _ => true
  | _ => false
mutual
/-- nothing frozen in it but tuples -/
def indD : D → Own → Bool
  | .non, _ => true
  | .bl _, _ => true
  | .int _, _ => true
  | .str _, _ => true
  | .ty _, _ => true
  | .cls _, _ => true
  | .hole, _ => true
  | .tupk ds, _ => indDs ds .no
  | .tup ds, _ => indDs ds .no
  | .lst ds, .lst c => indDs ds c
  | _, _ => false
def indDs : List D → Own → Bool
  | [], _ => true
  | d :: ds, c => indD d c && indDs ds c
end
theorem indDs_all {c : Own} : ∀ {ds : List D}, indDs ds c = true → ∀ d ∈ ds, indD d c = true
  | [], _, d, m => by cases m
  | x :: ds, h, d, m => by
    rw [indDs, Bool.and_eq_true] at h
    rcases List.mem_cons.mp m with e | m
    · rw [e]; exact h.1
    · exact indDs_all h.2 d m
theorem indDs_of {c : Own} : ∀ {ds : List D}, (∀ d ∈ ds, indD d c = true) → indDs ds c = true
  | [], _ => rfl
  | x :: ds, h => by
    rw [indDs, Bool.and_eq_true]
    exact ⟨h x (List.mem_cons_self ..), indDs_of fun d m => h d (List.mem_cons_of_mem _ m)⟩
inductive IndF : List D → List Own → Prop where
  | nil : IndF [] []
  | cons {d : D} {o : Own} {ds : List D} {os : List Own} (h : indD d o = true) (t : IndF ds os) : IndF (d :: ds) (o :: os)
section
variable {K : PySem.W.Frag} {cl : String → Addr} {C : Pc} {W : WX} {Hf H Hf' H' : Hp} {σ : L2.St} {ρ : Env} {fp : Fp}
theorem R.mut {x y z} {f : Fp} (h : R K cl Hf H x y z f) : ∀ b, f b ≠ 0 → ∃ o, H b = some o ∧ mutO o = true := by
  induction h with
  | @lstO f g a vs ds os c h hn r ho hf ih =>
    intro b hb
    by_cases e : b = a
    · subst e; exact ⟨_, h, rfl⟩
    · rw [hf, if_neg e] at hb; exact ih b (by omega)
  | @dicO f g a kvs kds os c h hn hk r ho hf ih =>
    intro b hb
    by_cases e : b = a
    · subst e; exact ⟨_, h, rfl⟩
    · rw [hf, if_neg e] at hb; exact ih b (by omega)
  | @ditO f g a kvs kds os c h hn hk r ho hf ih =>
    intro b hb
    by_cases e : b = a
    · subst e; exact ⟨_, h, rfl⟩
    · rw [hf, if_neg e] at hb; exact ih b (by omega)
  | @objO f g a dx c fvs fds os fo h hn hk r ho hf ih =>
    intro b hb
    by_cases e : b = a
    · subst e; exact ⟨_, h, rfl⟩
    · rw [hf, if_neg e] at hb; exact ih b (by omega)
  | @cons f g k v vs d ds o os r rs hf ih1 ih2 =>
    intro b hb
    rw [hf] at hb
    by_cases e : f b = 0
    · exact ih2 b (by omega)
    · exact ih1 b e
  | _ => intro b hb; exact absurd (by simp_all) hb
theorem EnvR.mut {f : Fp} (h : EnvR K cl Hf H σ ρ f) : ∀ b, f b ≠ 0 → ∃ o, H b = some o ∧ mutO o = true := by
  induction h with
  | nil hf => intro b hb; exact absurd (hf b) hb
  | gap r ih => exact ih
  | @has f g k v d o σ ρ h r hf ih =>
    intro b hb
    rw [hf] at hb
    by_cases e : f b = 0
    · exact ih b (by omega)
    · exact h.mut b e
def indS : D ⊕ List D → Own ⊕ List Own → Prop
  | .inl d, .inl o => indD d o = true
  | .inr ds, .inr os => IndF ds os
  | _, _ => False
theorem forall2_const {c : Own} : ∀ {ds : List D} {os : List Own}, os.length = ds.length → indDs ds c = true → (∀ o ∈ os, o = c) → IndF ds os
  | [], os, h, _, _ => by cases os with | nil => exact .nil | cons _ _ => cases h
  | d :: ds, os, h, hi, ho => by
    cases os with
    | nil => cases h
    | cons o os =>
      rw [indDs, Bool.and_eq_true] at hi
      refine .cons ?_ (forall2_const (by simpa using h) hi.2 fun x m => ho x (List.mem_cons_of_mem _ m))
      rw [ho o (List.mem_cons_self ..)]; exact hi.1
/-- what rests on no mutable frozen object is read in another frozen heap, too -/
theorem R.ind {x y z} {f : Fp} (h : R K cl Hf H x y z f) (hi : indS y z) (k : ∀ b o, Hf b = some o → mutO o = false → Hf' b = some o) (n : ∀ b, f b ≠ 0 → Hf' b = none) : R K cl Hf' H x y z f := by
  have sT : ∀ {a : Addr} {vs : List V}, SqT K Hf a vs → SqT K Hf' a vs := fun {a vs} h => by
    rcases h with (h | ⟨o, h⟩) | h
    · exact .inl (.inl (k _ _ h rfl))
    · exact .inl (.inr ⟨o, k _ _ h rfl⟩)
    · exact .inr h
  induction h with
  | non hf => exact .non hf
  | bl x hf => exact .bl x hf
  | int x hf => exact .int x hf
  | str x hf => exact .str x hf
  | ty x hf => exact .ty x hf
  | cls x hf => exact .cls x hf
  | hole x hf => exact .hole x hf
  | tupk h r ho hf ih =>
    simp only [indS, indD] at hi
    exact .tupk (sT h) (ih (forall2_const r.len.2 hi ho) n) ho hf
  | tup h r ho hf ih =>
    simp only [indS, indD] at hi
    exact .tup (k _ _ h rfl) (ih (forall2_const r.len.2 hi ho) n) ho hf
  | @lstO f g a vs ds os c h hn r ho hf ih =>
    simp only [indS, indD] at hi
    exact .lstO h (n a (by rw [hf, if_pos rfl]; omega)) (ih (forall2_const r.len.2 hi ho) fun b hb => n b (by rw [hf]; omega)) ho hf
  | nil hf => exact .nil hf
  | cons r rs hf ih1 ih2 =>
    have hi : IndF _ _ := hi
    cases hi with
    | cons h1 h2 => exact .cons (ih1 h1 fun b hb => n b (by rw [hf]; omega)) (ih2 h2 fun b hb => n b (by rw [hf]; omega)) hf
  | lsk h r ho hf ih => simp [indS, indD] at hi
  | lstF h r ho hf ih => simp [indS, indD] at hi
  | dicF h hk r ho hf ih => simp [indS, indD] at hi
  | dicO h hn hk r ho hf ih => simp [indS, indD] at hi
  | ditF h hk r ho hf ih => simp [indS, indD] at hi
  | ditO h hn hk r ho hf ih => simp [indS, indD] at hi
  | objF h hk r ho hf ih => simp [indS, indD] at hi
  | objO h hn hk r ho hf ih => simp [indS, indD] at hi
end
def noO (x : DO) : DO := (x.1, .no)
def rzB (r : Rf) : M DO := fun ρ => match r with
  | .ok x [] => if indD x.1 x.2 = true then .ok x ρ else .stuck
  | .err c fs [] => if (fs.all fun p => indD p.2 .no) = true then .err c fs ρ else .stuck
  | _ => .stuck
def mCallB (m : List DO → Rf) (fs : M (List DO)) : M DO := M.bind fs fun xs => rzB (m (xs.map noO))
section
variable {K : PySem.W.Frag} {cl : String → Addr} {C : Pc} {W : WX} {Hf H Hf0 H0 : Hp} {σ : L2.St} {ρ : Env} {fp fp0 fd : Fp} {Q : VK} {E : XK} {m : List DO → Rf} {xs : List DO} {vs : List V} {n : Nat}
theorem callB_den (hn : vs.length = n) (G : Good K cl C Hf H σ ρ fp) (r : Rs K cl Hf H vs (xs.map (·.1)) (xs.map (·.2)) fd) (hE : ∀ c d H, W c d σ H → E c d H) {P : DO → Env → Prop} (F0 : Fr Hf0 H0 fp0 Hf H fp)
    (w : Wz K cl C W σ Hf0 H0 fp0 (rzB (m (xs.map noO)) ρ) P)
    (fin : ∀ x v Hf' H' fe, P x ρ → Good K cl C Hf' H' σ ρ fp → R1 K cl Hf' H' v x.1 x.2 fe → Fr Hf H fp Hf' H' fp → Quiet Hf H fp Hf' H' → (∀ b, fe b + fp b ≤ 1) → (∀ b, fe b ≠ 0 → H b = none) → Q v H') : spD K cl n [] m vs H Q E := by
  refine ⟨hn, ?_⟩
  have hl1 : ∀ b, fd b ≠ 0 → Hf b = none := fun b hb => (r.live b hb).2
  have hl2 : ∀ b, fp b ≠ 0 → Hf b = none := fun b hb => (G.live b hb).2
  have hmut : ∀ b, fd b + fp b ≠ 0 → ∃ o, H b = some o ∧ mutO o = true := fun b hb => by
    by_cases z : fd b = 0
    · exact G.env.mut b (by omega)
    · exact r.mut b z
  have hnone : ∀ b, fd b + fp b ≠ 0 → Hf b = none := fun b hb => by
    by_cases z : fd b = 0
    · exact hl2 b (by omega)
    · exact hl1 b z
  have sz : Same Hf (frzH Hf H fun b => fd b + fp b) := frzH_same hnone
  have s1 : Same (frzH Hf H fun b => fd b + fp b) H := fun b o h => by
    unfold frzH at h
    split at h
    · exact G.sub b o h
    · exact h
  have rf : Rs K cl (frzH Hf H fun b => fd b + fp b) H vs ((xs.map noO).map (·.1)) ((xs.map noO).map (·.2)) Fp.z := by
    have := r.freeze sz fun b hb => by unfold frzH; rw [if_neg (by show ¬ fd b + fp b = 0; omega)]
    have e1 : (xs.map noO).map (·.1) = xs.map (·.1) := by rw [List.map_map]; rfl
    have e2 : (xs.map noO).map (·.2) = (xs.map (·.2)).map fun _ => Own.no := by rw [List.map_map, List.map_map]; rfl
    rw [e1, e2]; exact this
  refine ⟨_, xs.map noO, Fp.z, s1, rf, fun b => Nat.zero_le _, fun i x hi _ => ?_, ?_⟩
  · rw [List.getElem?_map] at hi
    cases e : xs[i]? with
    | none => rw [e] at hi; cases hi
    | some y => rw [e] at hi; cases hi; rfl
  -- back to the frozen heap that was
  have back : ∀ {Hg H' : Hp} {fq : Fp}, Same Hg H' → Fr (frzH Hf H fun b => fd b + fp b) H Fp.z Hg H' fq → (∀ b, fq b ≤ 1) →
      let Hf' : Hp := fun b => if fd b + fp b = 0 then Hg b else none
      Good K cl C Hf' H' σ ρ fp ∧ Fr Hf H fp Hf' H' fp ∧ Quiet Hf H fp Hf' H' ∧ (∀ b o, Hg b = some o → mutO o = false → Hf' b = some o) ∧ (∀ b, fq b ≠ 0 → H b = none) ∧ ∀ b, fq b + fp b ≤ 1 := by
    intro Hg H' fq sg F d1 Hf'
    have keep : Same H H' := fun b o h => F.keep b o h rfl
    have nq : ∀ b, fq b ≠ 0 → H b = none := fun b hb => (F.new b hb).resolve_left fun z => z rfl
    have sf : Same Hf Hf' := fun b o h => by
      show (if fd b + fp b = 0 then Hg b else none) = some o
      by_cases z : fd b + fp b = 0
      · rw [if_pos z]; exact F.sub b o (sz b o h)
      · rw [hnone b z] at h; cases h
    have own0 : ∀ b, fp b ≠ 0 → Hf' b = none := fun b hb => if_neg (by omega)
    refine ⟨⟨fun b o h => ?_, G.env.to sf fun b hb => ⟨?_, own0 b hb⟩, G.nd, G.pin, C.mono sf G.fac⟩, ⟨sf, fun b o h _ => keep b o h, F.there, fun b hb => .inl hb, fun b hb => ?_⟩, ⟨keep, own0⟩, fun b o h ho => ?_, nq, fun b => ?_⟩
    · have h : (if fd b + fp b = 0 then Hg b else none) = some o := h
      split at h
      · exact sg b o h
      · cases h
    · obtain ⟨⟨o, ho⟩, _⟩ := G.live b hb
      rw [ho]; exact keep b o ho
    · have hb : (if fd b + fp b = 0 then Hg b else none) ≠ none := hb
      split at hb
      · rename_i z
        rcases F.newf b hb with q | q | q
        · refine .inl fun e => q ?_
          unfold frzH; rw [if_pos (show fd b + fp b = 0 from z)]; exact e
        · exact absurd rfl q
        · exact .inr (.inr q)
      · exact absurd rfl hb
    · show (if fd b + fp b = 0 then Hg b else none) = some o
      by_cases z : fd b + fp b = 0
      · rw [if_pos z]; exact h
      · obtain ⟨o', h1, h2⟩ := hmut b z
        have := keep b o' h1
        rw [sg b o h] at this
        cases this
        rw [ho] at h2; cases h2
    · by_cases z : fq b = 0
      · have := G.nd b; omega
      · have hN := nq b z
        have : fp b = 0 := by
          by_cases z2 : fp b = 0
          · exact z2
          · obtain ⟨⟨o, ho⟩, _⟩ := G.live b z2; rw [hN] at ho; cases ho
        have := d1 b; omega
  unfold rzB at w
  cases em : m (xs.map noO) with
  | stuck => rw [em] at w; exact w
  | ok x ms =>
    rw [em] at w
    cases ms with
    | cons _ _ => exact False.elim w
    | nil =>
      dsimp only at w
      split at w
      · rename_i hi
        intro v Hg H' fe fm sg rv rm dd F
        have fm0 : ∀ b, fm b = 0 := by cases rm; assumption
        have F' : Fr (frzH Hf H fun b => fd b + fp b) H Fp.z Hg H' fe := F.less fun b => by show fe b ≤ fe b + fm b; omega
        obtain ⟨Gk, Fk, Qk, kk, nq, dq⟩ := back sg F' fun b => by have := dd b; omega
        refine fin x v _ H' fe w Gk (rv.ind hi kk fun b hb => ?_) Fk Qk dq nq
        show (if fd b + fp b = 0 then Hg b else none) = none
        have : Hg b = none := (rv.live b hb).2
        rw [this]; split <;> rfl
      · exact False.elim w
  | err c fs ms =>
    rw [em] at w
    cases ms with
    | cons _ _ => exact False.elim w
    | nil =>
      dsimp only at w
      split at w
      · rename_i hi
        intro Hg H' fm dx fvs os g sg rm dd F hx hx' hk hr ho
        have fm0 : ∀ b, fm b = 0 := by cases rm; assumption
        obtain ⟨Gk, Fk, Qk, kk, nq, dq⟩ := back sg F fun b => by have := dd b; omega
        have z := hr.zeros_of_no ho
        refine hE _ _ _ (w _ H' fp dx fvs os g Gk (F0.trans Fk) hx (kk _ _ hx' rfl) hk (hr.ind ?_ kk fun b hb => absurd (z b) hb) ho)
        refine forall2_const hr.len.2 (indDs_of (c := .no) fun d m => ?_) ho
        obtain ⟨p, hp, rfl⟩ := List.mem_map.mp m
        exact List.all_eq_true.mp hi p hp
      · exact False.elim w
end
section
variable {X : Cx} {cl : String → Addr} {C : Pc} {W : WX} {p p1 p2 o o1 o2 : Bool} {e a : Expr} {es : List Expr} {fe fa : M DO} {fs : M (List DO)} {pos : Pos}
/-- f(e, ..), all borrowed -/
theorem qx_fnB {x : Str} {p' : Pos} {k : Nat} {f : Addr} {fd : FuncData} {ps : List Str} {m : List DO → Rf} {n : Nat} (F : FnOk X.prog X.w X.K X.mg X.base (L2.CX X.prog X.w) k f fd ps (spD X.K cl n [] m)) (hr : Room k X.A) (hg : Gl X x) (hm : X.mg x = some (.ref f)) (hk : PySem.W.keepIn X.K (.ref f) = true) (hb : Binds X.K fd ps [])
    (tk : Takes X W) (ha : QA X cl C W p o (e :: es) fs) (hl : es.length + 1 = n := by rfl) (hdb : (x == ("__debug__" : Str)) = false := by decide) (he : starEach (e :: es) X.env = (false, eval e X.env) :: starEach es X.env := by rfl) (hpl : (backTo pos (starEach es X.env)).any (·.1) = false := by rfl)
    (hfs : ∀ ρ xs ρ', fs ρ = .ok xs ρ' → xs.length = n) :
    QX X cl C W p true (.Call (.Name x p') (e :: es) [] pos) (mCallB m fs) := by
  obtain ⟨t, pe, dn⟩ := ha
  refine ⟨_, pe_callSD (E := WE W) F hr hg hm hk hb .nil (fun σ => L2.passAt tk σ) pe hdb he hpl, fun σ H Q ρ Hf fp G w => ?_⟩
  refine dn σ H _ ρ Hf fp G ?_
  unfold mCallB M.bind at w
  cases e0 : fs ρ with
  | stuck => rw [e0] at w; exact w
  | err c fs ρ1 => rw [e0] at w; exact w
  | ok xs ρ1 =>
    rw [e0] at w
    intro vs Hf1 H1 fp1 fd1 G1 r1 F1 c1 q1
    have hlv : vs.length = n := by have := r1.len.1; rw [List.length_map] at this; rw [this]; exact hfs _ _ _ e0
    rw [List.append_nil]
    exact callB_den (W := W) (m := m) (xs := xs) (P := POk X.K cl C p true σ Hf H fp Q) hlv G1 r1 (fun c d H h => h) F1 w fun y v Hf' H' fe hP G' r' F' q' d' n' => hP v Hf' H' fp1 fe G' r' (F1.trans F') (fun _ => ⟨d', fun b hb => .inr (F1.there b (n' b hb))⟩) fun ep => (q1 ep).then G q' F'
/-- o.m(e, ..), all borrowed -/
def mMethB (c mn : String) (m : List DO → Rf) (fo : M DO) (fs : M (List DO)) : M DO := M.bind fo fun x => if isOb c mn x = true then M.bind fs fun xs => rzB (m ((x :: xs).map noO)) else M.stuck
theorem methB_den {c mn : String} {ta : TE} {t : TA} {m : List DO → Rf} {n : Nat} (dn : Den X.K cl C W p1 o1 ta fa) (du : DenA X.K cl C W p2 o2 t fs) (hc : (o1 || p2) = true) (hfs : ∀ ρ xs ρ', fs ρ = .ok xs ρ' → xs.length + 1 = n) :
    Den X.K cl C W (p1 && p2) true (tMethZ (cl c) (Str.ofString mn) (spD X.K cl n [] m) (WE W) ta t) (mMethB c mn m fa fs) := by
  intro σ H Q ρ Hf fp G w
  refine dn.bind G w fun x ρ1 v Hf1 H1 fp1 fd G1 r1 F1 c1 q1 w1 => ?_
  split at w1
  · rename_i ho
    obtain ⟨a, dx, fvs, ev, ha, hn⟩ := isOb_at ho r1 G1.sub
    refine ⟨a, dx, fvs, ev, ha, hn, ?_⟩
    refine du σ H1 _ ρ1 Hf1 fp1 G1 ?_
    unfold M.bind at w1
    cases e0 : fs ρ1 with
    | stuck => rw [e0] at w1; exact w1
    | err c fs ρ1 => rw [e0] at w1; exact w1
    | ok xs ρ2 =>
      rw [e0] at w1
      intro vs Hf2 H2 fp2 fd2 G2 r2 F2 c2 q2
      have rx : R1 X.K cl Hf2 H2 v x.1 x.2 fd := r1.past F2 (by
        cases e : o1 with
        | true => exact .inl (c1 e).1
        | false => rw [e] at hc; exact .inr (q2 hc))
      have hlv : (v :: vs).length = n := by have := r2.len.1; rw [List.length_map] at this; rw [List.length_cons, this]; exact hfs _ _ _ e0
      have rr : Rs X.K cl Hf2 H2 (v :: vs) ((x :: xs).map (·.1)) ((x :: xs).map (·.2)) (fun b => fd b + fd2 b) := .cons rx r2 fun b => rfl
      exact callB_den (W := W) (m := m) (xs := x :: xs) (P := POk X.K cl C (p1 && p2) true σ Hf H fp Q) hlv G2 rr (fun c d H h => h) F2 w1 fun y v Hf' H' fe hP G' r' F' q' d' n' => hP v Hf' H' fp2 fe G' r' ((F1.trans F2).trans F') (fun _ => ⟨d', fun b hb => .inr ((F1.trans F2).there b (n' b hb))⟩) fun ep => by
        rw [Bool.and_eq_true] at ep
        exact ((q1 ep.1).then G (q2 ep.2) F2).then G q' F'
  · exact False.elim w1
theorem qx_methB {c mn : String} {k : Nat} {f : Addr} {fd : FuncData} {ps : List Str} {m : List DO → Rf} {n : Nat} {apos : Pos} {pl : Sem Bool} (cc : Cls X.K (cl c)) (hm : Meth X.K (cl c) (Str.ofString mn) f) (F : FnOk X.prog X.w X.K X.mg X.base (L2.CX X.prog X.w) k f fd ps (spD X.K cl n [] m)) (hr : Room k X.A) (hb : Binds X.K fd ps []) (tk : Takes X W)
    (ho : QX X cl C W p1 o1 a fa) (ha : QA X cl C W p2 o2 (e :: es) fs) (hc : (o1 || p2) = true := by rfl) (hst : starEach (e :: es) X.env = (false, eval e X.env) :: starEach es X.env := by rfl) (hpl : (backTo pos (starEach es X.env)).any (·.1) = false := by rfl)
    (ht : eval (.Call (.Attribute a (Str.ofString mn) apos) (e :: es) [] pos) X.env = (do
      let ov ← eval a X.env
      standAt apos.atName
      let (f, first) ← holding [ov] (getMethod ov (Str.ofString mn) pl)
      callWith pos f first (backTo pos (starEach (e :: es) X.env)) (backToKw pos (keywordEach [] X.env))) := by rfl)
    (hfs : ∀ ρ xs ρ', fs ρ = .ok xs ρ' → xs.length + 1 = n) :
    QX X cl C W (p1 && p2) true (.Call (.Attribute a (Str.ofString mn) apos) (e :: es) [] pos) (mMethB c mn m fa fs) := by
  obtain ⟨ta, pa, da⟩ := ho
  obtain ⟨t, pe, du⟩ := ha
  exact ⟨_, pe_methZ (pl := pl) pa cc hm F hr hb (fun σ => L2.passAt tk σ) pe hst hpl ht, methB_den da du hc hfs⟩
theorem qx_methB0 {c mn : String} {k : Nat} {f : Addr} {fd : FuncData} {ps : List Str} {m : List DO → Rf} {apos : Pos} {pl : Sem Bool} (cc : Cls X.K (cl c)) (hm : Meth X.K (cl c) (Str.ofString mn) f) (F : FnOk X.prog X.w X.K X.mg X.base (L2.CX X.prog X.w) k f fd ps (spD X.K cl 1 [] m)) (hr : Room k X.A) (hb : Binds X.K fd ps []) (tk : Takes X W)
    (ho : QX X cl C W p o a fa)
    (ht : eval (.Call (.Attribute a (Str.ofString mn) apos) [] [] pos) X.env = (do
      let ov ← eval a X.env
      standAt apos.atName
      let (f, first) ← holding [ov] (getMethod ov (Str.ofString mn) pl)
      callWith pos f first (backTo pos (starEach [] X.env)) (backToKw pos (keywordEach [] X.env))) := by rfl) :
    QX X cl C W p true (.Call (.Attribute a (Str.ofString mn) apos) [] [] pos) (mMethB c mn m fa (M.ret [])) := by
  obtain ⟨ta, pa, da⟩ := ho
  have du : DenA X.K cl C W true true tNil (M.ret ([] : List DO)) := fun σ H Q ρ Hf fp G w => w [] Hf H fp Fp.z G (.nil fun _ => rfl) Fr.refl (fun _ => ⟨fun b => by have := G.nd b; simp [Fp.z]; omega, fun b hb => absurd rfl hb⟩) fun _ => Quiet.refl fun b hb => (G.live b hb).2
  have := methB_den (c := c) (mn := mn) (m := m) (n := 1) da du (by simp) fun ρ xs ρ' h => by cases h; rfl
  rw [Bool.and_true] at this
  exact ⟨_, pe_methZ0 (pl := pl) pa cc hm F hr hb (fun σ => L2.passAt tk σ) ht, this⟩
end
/-! the number of arguments -/
theorem len_nil {ρ : Env} {xs : List DO} {ρ' : Env} (h : mNil ρ = .ok xs ρ') : xs.length = 0 := by cases h; rfl
theorem len_cons {f : M DO} {fs : M (List DO)} {n : Nat} (h : ∀ ρ xs ρ', fs ρ = .ok xs ρ' → xs.length = n) : ∀ ρ xs ρ', mCons f fs ρ = .ok xs ρ' → xs.length = n + 1 := by
  intro ρ xs ρ' e
  unfold mCons M.bind at e
  cases e1 : f ρ with
  | stuck => rw [e1] at e; cases e
  | err c fs ρ1 => rw [e1] at e; cases e
  | ok x ρ1 =>
    rw [e1] at e
    dsimp only at e
    cases e2 : fs ρ1 with
    | stuck => rw [e2] at e; cases e
    | err c fs ρ2 => rw [e2] at e; cases e
    | ok ys ρ2 =>
      rw [e2] at e
      cases e
      simp [h _ _ _ e2]
end DL
/-! Names of classes; the law's own promise. -/
namespace DL
open PySem PySem.Spec L2
section
variable {X : Cx} {cl : String → Addr} {C : Pc} {W : WX}
/-- a built-in class by its name -/
theorem qx_ty {x : Str} {n : String} {pos : Pos} (hg : Gl X x) (hm : X.mg x = none) (hv : bootBuiltins x = some (.type n)) (hn : x ≠ "__name__" := by decide) (hd : (x == ("__debug__" : Str)) = false := by decide) : QX X cl C W true true (.Name x pos) (mC (.ty n)) :=
  ⟨_, pe_bltn (v := .ty n) hg hm hv rfl hn hd, den_c fun _ _ => .ty n fun _ => rfl⟩
/-- an own class by its name -/
theorem qx_cls {x : Str} (c : String) {pos : Pos} (hg : Gl X x) (hm : X.mg x = some (.ref (cl c))) (hd : (x == ("__debug__" : Str)) = false := by decide) : QX X cl C W true true (.Name x pos) (mC (.cls c)) :=
  qx_glob (v := .ref (cl c)) hg hm rfl (fun _ _ => .cls c fun _ => rfl) hd
/-- a constant of the module -/
theorem qx_gint {x : Str} (i : Int) {pos : Pos} (hg : Gl X x) (hm : ∃ t, X.mg x = some (.int i t)) (hd : (x == ("__debug__" : Str)) = false := by decide) : QX X cl C W true true (.Name x pos) (mC (.int i)) := by
  obtain ⟨t, hm⟩ := hm
  exact qx_glob (v := .int i) hg hm ⟨t, rfl⟩ (fun _ _ => r_int i) hd
end
/-! x += e -/
def gAddF (x y : DO) : M DO := gFlat2 (fun a b => match a, b with
  | .int i, .int j => some (.int (i + j))
  | .str i, .str j => if i.length + j.length ≤ sizeLine then some (.str (i ++ j)) else none
  | _, _ => none) x y
def rAddF : R2 := fun x y H Q => rI0 (fun i j => .int (i + j)) x y H Q ∨ ∃ i j, x = .str i ∧ y = .str j ∧ i.length + j.length ≤ sizeLine ∧ Q (.str (i ++ j)) H
theorem iop_addF {X : Cx} : OpR X (inplaceOp .Add) rAddF := by
  intro pins s σ H x y v u Q I rx ry h
  rcases h with h | h
  · exact iop_add pins s σ H x y v u Q I rx ry h
  · exact iop_add_str pins s σ H x y v u Q I rx ry h
section
variable {K : PySem.W.Frag} {cl : String → Addr} {C : Pc} {W : WX}
theorem dr_addF : DR2 K cl C W true true rAddF gAddF := by
  refine .flat fun Hf H Q x y d o1 o2 v1 v2 f1 f2 s r1 r2 e => ?_
  split at e
  · cases e
    obtain ⟨rfl, _⟩ := r1.isInt
    obtain ⟨rfl, _⟩ := r2.isInt
    exact ⟨_, Fp.z, r_int _, fun q => .inl ⟨_, _, rfl, rfl, q⟩⟩
  · split at e
    · rename_i hl
      cases e
      obtain ⟨rfl, _⟩ := r1.isStr
      obtain ⟨rfl, _⟩ := r2.isStr
      exact ⟨_, Fp.z, r_str _, fun q => .inr ⟨_, _, rfl, rfl, hl, q⟩⟩
    · cases e
  · cases e
/-- where it first stands -/
def occ0 (a b : Str) : Option Nat := (Builtin.Str.occurrences a b 0 a.length 1).head?
def gSIdx := gStr1 fun a b => (occ0 a b).map fun k => .int (k : Nat)
theorem drm_sidx : DRMt K cl C W (fun x xs H Q => ∃ a b i rest, x = .str a ∧ xs = [.str b] ∧ Builtin.Str.occurrences a b 0 a.length 1 = i :: rest ∧ Q (.int (i : Nat)) H) gSIdx := by
  intro σ H Q ρ Hf fp x xs v vs f0 f1 G r0 r1 w
  unfold gSIdx gStr1 at w
  split at w
  · rename_i a y ea
    split at w
    · rename_i b eb
      dsimp only at w
      cases eo : occ0 a b with
      | none => rw [eo] at w; exact False.elim w
      | some k =>
        rw [eo] at w
        rw [ea] at r0
        obtain ⟨rfl, _⟩ := r0.isStr
        cases r1 with
        | cons r rs hf =>
          cases rs
          dsimp only at r
          rw [eb] at r
          obtain ⟨rfl, _⟩ := r.isStr
          unfold occ0 at eo
          cases ee : Builtin.Str.occurrences a b 0 a.length 1 with
          | nil => rw [ee] at eo; cases eo
          | cons i rest =>
            rw [ee] at eo
            cases eo
            exact ⟨a, b, _, rest, rfl, rfl, ee, POk.keep w G (r_int _)⟩
    · exact False.elim w
  · exact False.elim w
end
theorem fnStuck {cl : String → Addr} {P : Program} {w : World} {K : PySem.W.Frag} {mg : Str → Option Value} {base : Heap} {x qual : Str} {st : Stmt} {f : Addr} {fd : FuncData} {N ps : List Str} {k n : Nat} {mi : List Nat} (F : Fun K x qual st f fd) (S : FnScope N ps (defScope st)) (hn : ps.length = n) :
    FnOk P w K mg base (L2.CX P w) (k + 1) f fd ps (spD K cl n mi fun _ => .stuck) := by
  refine F.okX S (fun vs H Q E h => by rw [hn]; exact h.1) fun cdv A outer s H vs Q E hr h => ?_
  obtain ⟨_, Hf, ds, ff, _, _, _, _, wf⟩ := h
  exact False.elim wf
theorem spD_law {K : PySem.W.Frag} {cl : String → Addr} {m : List DO → Rf} {H : Hp} {a : Addr} {ns : List Int} {Q : VK} {E : XK} (hS : SqL K H a (ns.map V.int)) (hm : m [(.lsk (ns.map .int), .no)] = .ok (.bl true, .no) []) (hQ : ∀ H', Q (.bl true) H') :
    spD K cl 1 [] m [.ref a] H Q E := by
  refine ⟨rfl, H, [(.lsk (ns.map .int), .no)], Fp.z, Same.refl _, ?_, fun b => Nat.zero_le _, fun i x hi _ => ?_, ?_⟩
  · refine .cons (f := Fp.z) (g := Fp.z) (.lsk hS (rows_ints ns) mem_rep fun _ => rfl) (.nil fun _ => rfl) fun _ => rfl
  · cases i with
    | zero => cases hi; rfl
    | succ i => simp at hi
  · rw [hm]
    intro v Hf' H' fd fm s r rm d F
    obtain ⟨rfl, _⟩ := r.isBl
    exact hQ H'
/-- THE LAW's promise: over every list of at most 63 ints the answer is True -/
def spL (K : PySem.W.Frag) : Sp := fun vs H Q _ => ∃ (a : Addr) (ns : List Int), vs = [.ref a] ∧ ns.length ≤ 63 ∧ SqL K H a (ns.map V.int) ∧ ∀ H', Q (.bl true) H'
theorem dl_walk {l : PySem.W.OpenLaw} {k : Nat} {q : Program} {loose : List Str} {XP : (Str → Option Value) → Heap → Prop} {YP : World → Heap → Prop} {d : DefRec} {K : Params → PySem.W.Frag} {x : Str}
    (hn : l.most = some 63) (hdf : d.params.defaults = []) (hr : Room k callerA)
    (hY : ∀ (w : World) (h : Heap), YP w h → (K w.params).In h)
    (F : ∀ (w : World) (mg : Str → Option Value) (fa : Addr) (h : Heap), (K w.params).In h → h.Ns mainGlobals mg → mg d.name = some (.ref fa) →
      ∃ fd : FuncData, (∀ (s : Shared) (u : Value), BindsTo s fd ⟨[u], []⟩ [(x, u)]) ∧
        ∀ base : Heap, (K w.params).In base → base.Ns mainGlobals mg → FnOk l.prog w (K w.params) mg base (L2.CX l.prog w) k fa fd [x] (spL (K w.params))) :
    PySem.W.WalkO q loose XP YP l.row.toRowW d [] (fun f vs => PySem.call f vs) :=
  walk_of (n := 63) (K := K) (CX := fun w => L2.CX l.prog w) (sp := fun w => spL (K w.params)) hn (by decide) hdf hr hY F (fun w H a ns h1 h2 h3 => ⟨a, ns, rfl, h1, h3, fun _ => rfl⟩) fun w H s e s' h => by
    obtain ⟨_, _, _, _, _, _, _, _, _, _, _, _, z⟩ := h
    exact z
end DL
/-! Evaluating mirrors: each unfolds where it meets its slots. -/
namespace DL
open PySem PySem.Spec L2
section
variable {α β : Type} {ρ : Env} {f fe fa fb fc fo fv fk : M DO} {fs : M (List DO)} {t u : M Bool} {g h : M Fl} {tab : CT}
@[simp] theorem e_bind (f : M α) (k : α → M β) : M.bind f k ρ = match f ρ with | .stuck => .stuck | .ok a ρ' => k a ρ' | .err c fs ρ' => .err c fs ρ' := (rfl)
@[simp] theorem e_ret (a : α) : M.ret a ρ = .ok a ρ := (rfl)
@[simp] theorem e_stuck : (M.stuck : M α) ρ = .stuck := (rfl)
@[simp] theorem e_opt (a : Option α) : M.opt a ρ = match a with | some a => .ok a ρ | none => .stuck := (rfl)
@[simp] theorem e_C (d : D) : mC d ρ = .ok (d, .no) ρ := (rfl)
@[simp] theorem e_name (i : Nat) : mName i ρ = match ρ[i]? with | some (some x) => .ok x ρ | _ => .stuck := (rfl)
@[simp] theorem e_nameF (i : Nat) : mNameF i ρ = match ρ[i]? with | some (some (d, .no)) => .ok (d, .no) ρ | _ => .stuck := (rfl)
@[simp] theorem e_take (i : Nat) : mTake i ρ = match ρ[i]? with | some (some x) => .ok x (ρ.set i none) | _ => .stuck := (rfl)
@[simp] theorem e_chk : mChk f ρ = M.bind f (fun x ρ => match x.2 with | .no => .ok (x.1, .no) ρ | _ => .stuck) ρ := (rfl)
@[simp] theorem e_frz : mFrz f ρ = M.bind f (fun x => M.ret (x.1, .no)) ρ := (rfl)
@[simp] theorem e_m1 (g : DO → M DO) : m1 g f ρ = M.bind f g ρ := (rfl)
@[simp] theorem e_m2 (g : DO → DO → M DO) : m2 g fa fb ρ = M.bind fa (fun x => M.bind fb fun y => g x y) ρ := (rfl)
@[simp] theorem e_bool : mBool f ρ = M.bind f (fun x ρ => match x.1 with | .bl b => .ok b ρ | _ => .stuck) ρ := (rfl)
@[simp] theorem e_m3 (g g' : DO → DO → M DO) : m3 g g' fa fb fc ρ = M.bind fa (fun x => M.bind fb fun y => M.bind (mBool (g x y)) fun k => if k = true then M.bind fc fun z => g' y z else M.ret (.bl false, .no)) ρ := (rfl)
@[simp] theorem e_tru : mTru f ρ = M.bind f (fun x => M.opt (dTru x.1)) ρ := (rfl)
@[simp] theorem e_notT : mNotT t ρ = M.bind t (fun b => M.ret (!b)) ρ := (rfl)
@[simp] theorem e_andT : mAndT t u ρ = M.bind t (fun b => if b = true then u else M.ret false) ρ := (rfl)
@[simp] theorem e_orT : mOrT t u ρ = M.bind t (fun b => if b = true then M.ret true else u) ρ := (rfl)
@[simp] theorem e_notV : mNotV f ρ = M.bind (mBool f) (fun b => M.ret (.bl (!b), .no)) ρ := (rfl)
@[simp] theorem e_andV : mAndV f fe ρ = M.bind (mBool f) (fun b => if b = true then fe else M.ret (.bl false, .no)) ρ := (rfl)
@[simp] theorem e_orV : mOrV f fe ρ = M.bind (mBool f) (fun b => if b = true then M.ret (.bl true, .no) else fe) ρ := (rfl)
@[simp] theorem e_if : mIf t f fe ρ = M.bind t (fun b => if b = true then f else fe) ρ := (rfl)
@[simp] theorem e_nil : mNil ρ = .ok [] ρ := (rfl)
@[simp] theorem e_cons : mCons f fs ρ = M.bind f (fun x => M.bind fs fun xs => M.ret (x :: xs)) ρ := (rfl)
@[simp] theorem e_call (g : List DO → M DO) : mCall g fs ρ = M.bind fs g ρ := (rfl)
@[simp] theorem e_tup : mTup fs ρ = M.bind fs (fun xs ρ => if allNo xs = true ∧ xs.length ≤ sizeLine then .ok (.tup (xs.map (·.1)), .no) ρ else .stuck) ρ := (rfl)
@[simp] theorem e_lst : mLst fs ρ = M.bind fs (fun xs ρ => if allNo xs = true ∧ xs.length ≤ sizeLine then .ok (.lst (xs.map (·.1)), .lst .no) ρ else .stuck) ρ := (rfl)
@[simp] theorem e_fld (f : String) : mFld tab f fe ρ = M.bind fe (gFld tab f) ρ := (rfl)
@[simp] theorem e_meth (T : String) (g : DO → List DO → M DO) : mMeth T g fo fs ρ = M.bind fo (fun x => if dTy x.1 = some T then M.bind fs fun xs => g x xs else M.stuck) ρ := (rfl)
@[simp] theorem e_part : mPart f ρ = M.bind f (fun x ρ => match x.1 with | .int i => .ok (some i) ρ | _ => .stuck) ρ := (rfl)
@[simp] theorem e_sl (fl fh : M (Option Int)) : mSl fe fl fh ρ = M.bind fe (fun x => M.bind fl fun lo => M.bind fh fun hi => gSl x lo hi) ρ := (rfl)
@[simp] theorem e_callB (m : List DO → Rf) : mCallB m fs ρ = M.bind fs (fun xs => rzB (m (xs.map noO))) ρ := (rfl)
@[simp] theorem e_methB (c mn : String) (m : List DO → Rf) : mMethB c mn m fo fs ρ = M.bind fo (fun x => if isOb c mn x = true then M.bind fs fun xs => rzB (m ((x :: xs).map noO)) else M.stuck) ρ := (rfl)
@[simp] theorem e_noO (x : DO) : noO x = (x.1, .no) := (rfl)
@[simp] theorem e_rzB_ok (x : DO) (h : indD x.1 x.2 = true) : rzB (.ok x []) ρ = .ok x ρ := by unfold rzB; simp [h]
@[simp] theorem e_rzB_err (c : String) (fs : List (String × D)) (h : (fs.all fun p => indD p.2 .no) = true) : rzB (.err c fs []) ρ = .err c fs ρ := by show (if _ then _ else _) = _; rw [if_pos h]
@[simp] theorem e_nx : mNx ρ = .ok .nx ρ := (rfl)
@[simp] theorem e_seq : mSeq g h ρ = match g ρ with | .ok .nx ρ' => h ρ' | r => r := (rfl)
@[simp] theorem e_drop : mDrop f ρ = M.bind f (fun _ => M.ret .nx) ρ := (rfl)
@[simp] theorem e_mret : mRet f ρ = M.bind f (fun x => M.ret (.rt x)) ρ := (rfl)
@[simp] theorem e_set (i : Nat) : mSet i f ρ = M.bind f (fun x ρ => .ok .nx (ρ.set i (some x))) ρ := (rfl)
@[simp] theorem e_ifS : mIfS t g h ρ = M.bind t (fun b => if b = true then g else h) ρ := (rfl)
@[simp] theorem e_freeze (i : Nat) : mFreeze i g ρ = match ρ[i]? with | some (some (d, _)) => g (ρ.set i (some (d, .no))) | _ => g ρ := (rfl)
@[simp] theorem e_for (fi : M (List D)) (tg : Tgt) : mFor fi tg g ρ = M.bind fi (fun ds => forGo tg g ds) ρ := (rfl)
@[simp] theorem e_items : mItems f ρ = M.bind f (fun x ρ => match itemsD x.1 with | some ds => .ok ds ρ | none => .stuck) ρ := (rfl)
@[simp] theorem e_unp (tg : Tgt) : mUnp tg fe ρ = M.bind fe (fun x ρ => match x.2 with | .no => (match tg x.1 ρ with | some ρ' => .ok .nx ρ' | none => .stuck) | _ => .stuck) ρ := (rfl)
@[simp] theorem e_try (i : Nat) (xm : XM) (hh : String → List (String × D) → M Fl) : mTry i xm g hh ρ = match g ρ with
  | .err c fs ρ1 => (match xm.lookup c with
    | some true => if i < ρ1.length then (match hh c fs (ρ1.set i (some (.hole, .no))) with
      | .ok a ρ2 => .ok a (ρ2.set i none)
      | _ => .stuck) else .stuck
    | some false => .err c fs ρ1
    | none => .stuck)
  | r => r := rfl
@[simp] theorem e_isX (it : IT) (c0 : String) : mIsX it c0 f ρ = M.bind f (fun c ρ => match isaD it (.o c0) c.1 with | some b => .ok (.bl b, .no) ρ | none => .stuck) ρ := (rfl)
@[simp] theorem e_xf (fs : List (String × D)) (x : String) : mXf fs x ρ = M.opt ((fs.lookup x).map fun d => (d, Own.no)) ρ := (rfl)
@[simp] theorem e_append (pl : Pl) : mAppend tab pl fs ρ = match getP tab pl ρ with
  | some (.lst _, .lst _) => M.bind fs (fun xs ρ1 => match xs, getP tab pl ρ1 with
    | [x], some (.lst ds, .lst c) => if sameOwn x.2 c = true ∧ ds.length < sizeLine then .ok (.non, .no) (setP pl (.lst (ds ++ [x.1])) ρ1) else .stuck
    | _, _ => .stuck) ρ
  | _ => .stuck := rfl
@[simp] theorem e_fset (i : Nat) (f : String) : mFSet tab i f fe ρ = M.bind fe (fun x ρ => match ρ[i]? with
  | some (some (.obj c fds, .obj fo)) => if hasF tab c f = true ∧ fds.length < 1000 ∧ (fds.map (·.1)).Nodup then .ok .nx (ρ.set i (some (.obj c (fput f x.1 fds), .obj (oput f x.1 x.2 fo)))) else .stuck
  | _ => .stuck) ρ := rfl
@[simp] theorem e_getP_s (i : Nat) : getP tab (.s i) ρ = match ρ[i]? with | some (some x) => some x | _ => none := (rfl)
@[simp] theorem e_setP_s (i : Nat) (d : D) : setP (.s i) d ρ = match ρ[i]? with | some (some (_, o)) => ρ.set i (some (d, o)) | _ => ρ := (rfl)
@[simp] theorem e_tgN (i : Nat) (d : D) : tgN i d ρ = some (ρ.set i (some (d, .no))) := (rfl)
@[simp] theorem e_allNo_nil : allNo [] = true := (rfl)
@[simp] theorem e_allNo_cons (d : D) (xs : List DO) : allNo ((d, .no) :: xs) = allNo xs := (rfl)
@[simp] theorem e_same : sameOwn .no .no = true := (rfl)
@[simp] theorem e_fl : Own.fl .no = true := (rfl)
@[simp] theorem e_fl2 : Own.fl (.lst .no) = true := (rfl)
@[simp] theorem e_runBody (n : Nat) (mi : List Nat) (ds : List DO) : runBody n mi g ds = match g (ds.map some ++ List.replicate (n - ds.length) none) with
  | .stuck => .stuck
  | .ok (.rt x) ρ => (match takeMuts mi ρ with | some ms => .ok x ms | none => .stuck)
  | .ok .nx ρ => (match takeMuts mi ρ with | some ms => .ok (.non, .no) ms | none => .stuck)
  | .ok _ _ => .stuck
  | .err c fs ρ => (match takeMuts mi ρ with | some ms => .err c fs ms | none => .stuck) := rfl
@[simp] theorem e_takeMuts : takeMuts [] ρ = some [] := (rfl)
end
/-! operators on typed data -/
section
variable {ρ : Env} {o o' : Own}
@[simp] theorem o_addI (i j : Int) : gAdd (.int i, o) (.int j, o') ρ = .ok (.int (i + j), .no) ρ := (rfl)
@[simp] theorem o_subI (i j : Int) : gSub (.int i, o) (.int j, o') ρ = .ok (.int (i - j), .no) ρ := (rfl)
@[simp] theorem o_addF (i j : Int) : gAddF (.int i, o) (.int j, o') ρ = .ok (.int (i + j), .no) ρ := (rfl)
@[simp] theorem o_ltI (i j : Int) : gLt (.int i, o) (.int j, o') ρ = .ok (.bl (decide (i < j)), .no) ρ := (rfl)
@[simp] theorem o_leI (i j : Int) : gLe (.int i, o) (.int j, o') ρ = .ok (.bl (decide (i ≤ j)), .no) ρ := (rfl)
@[simp] theorem o_gtI (i j : Int) : gGt (.int i, o) (.int j, o') ρ = .ok (.bl (decide (j < i)), .no) ρ := (rfl)
@[simp] theorem o_geI (i j : Int) : gGe (.int i, o) (.int j, o') ρ = .ok (.bl (decide (j ≤ i)), .no) ρ := (rfl)
@[simp] theorem o_eqI (i j : Int) : gEq (.int i, o) (.int j, o') ρ = .ok (.bl (decide (i = j)), .no) ρ := (rfl)
@[simp] theorem o_eqS (i j : Str) : gEq (.str i, o) (.str j, o') ρ = .ok (.bl (decide (i = j)), .no) ρ := (rfl)
@[simp] theorem o_isN_non : gIsN (.non, o) (.non, o') ρ = .ok (.bl true, .no) ρ := (rfl)
@[simp] theorem o_isN_int (i : Int) : gIsN (.int i, o) (.non, o') ρ = .ok (.bl false, .no) ρ := (rfl)
@[simp] theorem o_isN_tup (i : List D) : gIsN (.tup i, o) (.non, o') ρ = .ok (.bl false, .no) ρ := (rfl)
@[simp] theorem o_isN_str (i : Str) : gIsN (.str i, o) (.non, o') ρ = .ok (.bl false, .no) ρ := (rfl)
@[simp] theorem o_isNot_non : gIsNot (.non, o) (.non, o') ρ = .ok (.bl false, .no) ρ := (rfl)
@[simp] theorem o_isNot_int (i : Int) : gIsNot (.int i, o) (.non, o') ρ = .ok (.bl true, .no) ρ := (rfl)
@[simp] theorem o_isNot_tup (i : List D) : gIsNot (.tup i, o) (.non, o') ρ = .ok (.bl true, .no) ρ := (rfl)
theorem o_mod (i j : Int) (h : 0 < j) : gMod (.int i, o) (.int j, o') ρ = .ok (.int (i % j), .no) ρ := by
  unfold gMod gFlat2 gI2; simp [h]
@[simp] theorem o_mulL (i j : Int) (h : -(2 ^ 64) < i ∧ i < 2 ^ 64) : gMul (.int i, o) (.int j, o') ρ = .ok (.int (i * j), .no) ρ := by
  have : mulC i j = true := decide_eq_true (.inl (.inl h))
  unfold gMul gFlat2 gI2; simp [this]
theorem o_mulR (i j : Int) (h : -(2 ^ 64) < j ∧ j < 2 ^ 64) : gMul (.int i, o) (.int j, o') ρ = .ok (.int (i * j), .no) ρ := by
  have : mulC i j = true := decide_eq_true (.inl (.inr h))
  unfold gMul gFlat2 gI2; simp [this]
@[simp] theorem o_lenL (ds : List D) : gLen [(.lst ds, o)] ρ = .ok (.int ds.length, .no) ρ := (rfl)
@[simp] theorem o_lenT (ds : List D) : gLen [(.tup ds, o)] ρ = .ok (.int ds.length, .no) ρ := (rfl)
@[simp] theorem o_lenK (ds : List D) : gLen [(.lsk ds, o)] ρ = .ok (.int ds.length, .no) ρ := (rfl)
theorem o_lenS (s : Str) (h : s.length ≤ sizeLine) : gLen [(.str s, o)] ρ = .ok (.int s.length, .no) ρ := by
  unfold gLen g1 gFlat1 dLen; simp [h]
@[simp] theorem o_intI (i : Int) : gInt [(.int i, o)] ρ = .ok (.int i, .no) ρ := (rfl)
@[simp] theorem o_intB (i : Bool) : gInt [(.bl i, o)] ρ = .ok (.int (if i then 1 else 0), .no) ρ := by cases i <;> rfl
@[simp] theorem o_abs (i : Int) : gAbs [(.int i, o)] ρ = .ok (.int (if i < 0 then -i else i), .no) ρ := (rfl)
@[simp] theorem o_tupleL (ds : List D) : gTuple [(.lst ds, .lst .no)] ρ = .ok (.tup ds, .no) ρ := (rfl)
@[simp] theorem o_tupleF (ds : List D) : gTuple [(.lst ds, .no)] ρ = .ok (.tup ds, .no) ρ := (rfl)
@[simp] theorem o_tupleT (ds : List D) : gTuple [(.tup ds, o)] ρ = .ok (.tup ds, .no) ρ := (rfl)
@[simp] theorem o_neg (i : Int) : gNeg (.int i, o) ρ = .ok (.int (-i), .no) ρ := (rfl)
@[simp] theorem o_truB (b : Bool) : dTru (.bl b) = some b := (rfl)
theorem o_sub1T (ds : List D) (i : Int) (d : D) (h : atI ds i = some d) : gSub1 (.tup ds, o) (.int i, o') ρ = .ok (d, .no) ρ := by
  unfold gSub1 gIx; simp [isDict, h]
theorem o_sub1L (ds : List D) (i : Int) (d : D) (hf : o.fl = true) (h : atI ds i = some d) : gSub1 (.lst ds, o) (.int i, o') ρ = .ok (d, .no) ρ := by
  unfold gSub1 gIx; simp [isDict, h, hf]
theorem o_sub1K (ds : List D) (i : Int) (d : D) (h : atI ds i = some d) : gSub1 (.lsk ds, o) (.int i, o') ρ = .ok (d, .no) ρ := by
  unfold gSub1 gIx; simp [isDict, h]
end
/-! loops -/
theorem forGo_inv {tg : Tgt} {g : M Fl} (Inv : Nat → Env → Prop) : ∀ {ds : List D} {ρ : Env} (k : Nat), (∀ i d ρ, ds[i]? = some d → Inv (k + i) ρ → ∃ ρ1 ρ2, tg d ρ = some ρ1 ∧ (g ρ1 = .ok .nx ρ2 ∨ g ρ1 = .ok .ct ρ2) ∧ Inv (k + i + 1) ρ2) → Inv k ρ → ∃ ρ', forGo tg g ds ρ = .ok .nx ρ' ∧ Inv (k + ds.length) ρ'
  | [], ρ, k, _, h => ⟨ρ, rfl, h⟩
  | d :: ds, ρ, k, hs, h => by
    obtain ⟨ρ1, ρ2, h1, h2, h3⟩ := hs 0 d ρ rfl h
    obtain ⟨ρ', h4, h5⟩ := forGo_inv Inv (ds := ds) (ρ := ρ2) (k + 1) (fun i d ρ hi hI => by
      have := hs (i + 1) d ρ (by simpa using hi) (by rwa [show k + (i + 1) = k + 1 + i by omega])
      rwa [show k + (i + 1) = k + 1 + i by omega] at this) h3
    refine ⟨ρ', ?_, by rwa [show k + (d :: ds).length = k + 1 + ds.length by simp; omega]⟩
    unfold forGo
    rw [h1]
    dsimp only
    rcases h2 with h2 | h2 <;> rw [h2] <;> exact h4
/-- .. that may be left by return -/
theorem forGo_ret {tg : Tgt} {g : M Fl} (Inv : Nat → Env → Prop) (Out : DO → Env → Prop) : ∀ {ds : List D} {ρ : Env} (k : Nat), (∀ i d ρ, ds[i]? = some d → Inv (k + i) ρ → ∃ ρ1, tg d ρ = some ρ1 ∧ ((∃ ρ2, (g ρ1 = .ok .nx ρ2 ∨ g ρ1 = .ok .ct ρ2) ∧ Inv (k + i + 1) ρ2) ∨ ∃ x ρ2, g ρ1 = .ok (.rt x) ρ2 ∧ Out x ρ2)) → Inv k ρ →
    (∃ ρ', forGo tg g ds ρ = .ok .nx ρ' ∧ Inv (k + ds.length) ρ') ∨ ∃ x ρ', forGo tg g ds ρ = .ok (.rt x) ρ' ∧ Out x ρ'
  | [], ρ, k, _, h => .inl ⟨ρ, rfl, h⟩
  | d :: ds, ρ, k, hs, h => by
    obtain ⟨ρ1, h1, h2⟩ := hs 0 d ρ rfl h
    rcases h2 with ⟨ρ2, h2, h3⟩ | ⟨x, ρ2, h2, h3⟩
    · have rest := forGo_ret Inv Out (ds := ds) (ρ := ρ2) (k + 1) (fun i d ρ hi hI => by
        have := hs (i + 1) d ρ (by simpa using hi) (by rwa [show k + (i + 1) = k + 1 + i by omega])
        rwa [show k + (i + 1) = k + 1 + i by omega] at this) h3
      have e : forGo tg g (d :: ds) ρ = forGo tg g ds ρ2 := by
        rw [forGo, h1]
        dsimp only
        rcases h2 with h2 | h2 <;> rw [h2]
      rw [e, show k + (d :: ds).length = k + 1 + ds.length by simp; omega]
      exact rest
    · refine .inr ⟨x, ρ2, ?_, h3⟩
      rw [forGo, h1]
      dsimp only
      rw [h2]
theorem mWhile_inv {t : M Bool} {g : M Fl} (Inv : Nat → Env → Prop) (Post : Env → Prop) (hs : ∀ m ρ, Inv m ρ → (∃ ρ', t ρ = .ok false ρ' ∧ Post ρ') ∨ ∃ ρ1 ρ2 m', t ρ = .ok true ρ1 ∧ g ρ1 = .ok .nx ρ2 ∧ m' < m ∧ Inv m' ρ2) : ∀ (m : Nat) (ρ : Env), Inv m ρ → ∃ ρ', mWhile t g ρ = .ok .nx ρ' ∧ Post ρ' := by
  intro m
  induction m using Nat.strongRecOn with
  | _ m ih =>
    intro ρ h
    rcases hs m ρ h with ⟨ρ', h1, h2⟩ | ⟨ρ1, ρ2, m', h1, h2, h3, h4⟩
    · exact ⟨ρ', by rw [mWhile_eq, h1], h2⟩
    · obtain ⟨ρ', h5, h6⟩ := ih m' h3 ρ2 h4
      exact ⟨ρ', by rw [mWhile_eq, h1]; dsimp only; rw [h2]; exact h5, h6⟩

/-! rows of ints -/
theorem toPs_ints : ∀ ns : List Int, toPs (ns.map .int) = some (ns.map .int)
  | [] => rfl
  | n :: ns => by simp [toPs, toP, toPs_ints ns]
theorem eqvAll_ints : ∀ xs ys : List Int, PyData.eqvAll (xs.map .int) (ys.map .int) = decide (xs = ys)
  | [], [] => by simp [PyData.eqvAll]
  | [], _ :: _ => by simp [PyData.eqvAll]
  | _ :: _, [] => by simp [PyData.eqvAll]
  | x :: xs, y :: ys => by
    simp only [List.map_cons, PyData.eqvAll, PyData.eqv, eqvAll_ints xs ys]
    by_cases h : x = y <;> by_cases h2 : xs = ys <;> simp [h, h2]
theorem canLay_ints : ∀ ns : List Int, PyData.canLayAll0 (ns.map .int) = true
  | [] => rfl
  | n :: ns => by simp [PyData.canLayAll0, PyData.canLay0, canLay_ints ns]
theorem depth_ints : ∀ ns : List Int, PyData.depthAll (ns.map .int) = 0
  | [] => rfl
  | n :: ns => by simp [PyData.depthAll, PyData.depth, depth_ints ns]
theorem o_eqT {ρ : Env} {o o' : Own} (xs ys : List Int) : gEq (.tup (xs.map .int), o) (.tup (ys.map .int), o') ρ = .ok (.bl (decide (xs = ys)), .no) ρ := by
  have s : ∀ ns : List Int, SeqAt.shaped (.tuple (ns.map .int)) = true := fun ns => by simp [SeqAt.shaped, PyData.canLay0, canLay_ints, PyData.depth, depth_ints]
  unfold gEq gFlat2 dEq
  simp [scalD, toP, toPs_ints, s, PyData.eqv, eqvAll_ints]
theorem o_eqL {ρ : Env} {o o' : Own} (xs ys : List Int) : gEq (.lst (xs.map .int), o) (.lst (ys.map .int), o') ρ = .ok (.bl (decide (xs = ys)), .no) ρ := by
  have s : ∀ ns : List Int, SeqAt.shaped (.list (ns.map .int)) = true := fun ns => by simp [SeqAt.shaped, PyData.canLay0, canLay_ints, PyData.depth, depth_ints]
  unfold gEq gFlat2 dEq
  simp [scalD, toP, toPs_ints, s, PyData.eqv, eqvAll_ints]
@[simp] theorem o_eqT2 {ρ : Env} {o o' : Own} (x y a b : Int) : gEq (.tup [.int x, .int y], o) (.tup [.int a, .int b], o') ρ = .ok (.bl (decide (x = a ∧ y = b)), .no) ρ := by
  have := o_eqT (ρ := ρ) (o := o) (o' := o') [x, y] [a, b]
  simpa using this
theorem atI_ints {ns : List Int} {i : Nat} {x : Int} (h : ns[i]? = some x) : atI (ns.map D.int) (i : Int) = some (.int x) := atI_nat (by rw [List.getElem?_map, h]; rfl)
theorem indDs_ints (ns : List Int) (c : Own) : indDs (ns.map .int) c = true := indDs_of fun d m => by
  obtain ⟨n, _, rfl⟩ := List.mem_map.mp m; rfl
@[simp] theorem ind_tupI (ns : List Int) (o : Own) : indD (.tup (ns.map .int)) o = true := by rw [indD]; exact indDs_ints ns _
@[simp] theorem ind_lstI (ns : List Int) : indD (.lst (ns.map .int)) (.lst .no) = true := by rw [indD]; exact indDs_ints ns _
@[simp] theorem ind_int (i : Int) (o : Own) : indD (.int i) o = true := (rfl)
@[simp] theorem ind_bl (i : Bool) (o : Own) : indD (.bl i) o = true := (rfl)
@[simp] theorem ind_str (i : Str) (o : Own) : indD (.str i) o = true := (rfl)
@[simp] theorem ind_non (o : Own) : indD .non o = true := (rfl)
@[simp] theorem ind_p2 (a b : Int) (o : Own) : indD (.tup [.int a, .int b]) o = true := by rw [indD]; rfl
theorem sizeL : sizeLine = 16777216 := by decide
end DL
/-! Typed functions beside the mirrors: what a mirror gives is what a typed function says. -/
namespace DL
open PySem PySem.Spec L2
inductive TR (α : Type) where
  | stuck
  | ok (a : α)
  | err (c : String) (fs : List (String × D))
namespace TR
variable {α β γ : Type}
def bind (t : TR α) (k : α → TR β) : TR β := match t with
  | .stuck => .stuck
  | .ok a => k a
  | .err c fs => .err c fs
@[simp] theorem bind_ok (a : α) (k : α → TR β) : (TR.ok a).bind k = k a := (rfl)
@[simp] theorem bind_stuck (k : α → TR β) : (TR.stuck : TR α).bind k = .stuck := (rfl)
@[simp] theorem bind_err (c fs) (k : α → TR β) : (TR.err c fs : TR α).bind k = .err c fs := (rfl)
theorem bind_assoc (t : TR α) (k : α → TR β) (l : β → TR γ) : (t.bind k).bind l = t.bind fun a => (k a).bind l := by cases t <;> rfl
def opt : Option α → TR α
  | some a => .ok a
  | none => .stuck
@[simp] theorem opt_some (a : α) : TR.opt (some a) = .ok a := (rfl)
@[simp] theorem opt_none : TR.opt (none : Option α) = .stuck := (rfl)
def guard (c : Bool) (a : α) : TR α := if c = true then .ok a else .stuck
@[simp] theorem guard_true (a : α) : TR.guard true a = .ok a := (rfl)
theorem guard_of {c : Bool} (h : c = true) (a : α) : TR.guard c a = .ok a := if_pos h
/-- it goes well, and the result is so -/
def Sat (t : TR α) (P : α → Prop) : Prop := ∃ a, t = .ok a ∧ P a
theorem Sat.ok {a : α} {P : α → Prop} (h : P a) : Sat (.ok a) P := ⟨a, rfl, h⟩
@[simp] theorem sat_ok {a : α} {P : α → Prop} : Sat (.ok a) P ↔ P a := ⟨fun h => (by obtain ⟨_, e, h⟩ := h; cases e; exact h), .ok⟩
@[simp] theorem sat_stuck {P : α → Prop} : Sat (.stuck : TR α) P ↔ False := ⟨fun h => (by obtain ⟨_, e, _⟩ := h; cases e), fun h => h.elim⟩
@[simp] theorem sat_err {c fs} {P : α → Prop} : Sat (.err c fs : TR α) P ↔ False := ⟨fun h => (by obtain ⟨_, e, _⟩ := h; cases e), fun h => h.elim⟩
theorem sat_bind {t : TR α} {k : α → TR β} {P : β → Prop} : Sat (t.bind k) P ↔ Sat t fun a => Sat (k a) P := by
  cases t with
  | ok a => simp
  | stuck => simp
  | err c fs => simp
theorem Sat.bind {t : TR α} {k : α → TR β} {P : α → Prop} {Q : β → Prop} (h : Sat t P) (hk : ∀ a, P a → Sat (k a) Q) : Sat (t.bind k) Q := by
  obtain ⟨a, rfl, h⟩ := h; exact hk a h
theorem Sat.imp {t : TR α} {P Q : α → Prop} (h : Sat t P) (hk : ∀ a, P a → Q a) : Sat t Q := by
  obtain ⟨a, rfl, h⟩ := h; exact ⟨a, rfl, hk a h⟩
theorem Sat.eq {t : TR α} {b : α} (h : Sat t (· = b)) : t = .ok b := by obtain ⟨a, rfl, h⟩ := h; rw [h]
end TR
/-! ### what is known of the slots -/
abbrev Spc := List (Option DO)
inductive Ag : Spc → Env → Prop
  | nil : Ag [] []
  | skip {s : Spc} {ρ : Env} (x : Option DO) (h : Ag s ρ) : Ag (none :: s) (x :: ρ)
  | keep {s : Spc} {ρ : Env} (x : DO) (h : Ag s ρ) : Ag (some x :: s) (some x :: ρ)
inductive Le : Spc → Spc → Prop
  | nil : Le [] []
  | skip {s t : Spc} {x : Option DO} (h : Le s t) : Le (none :: s) (x :: t)
  | keep {s t : Spc} {x : DO} (h : Le s t) : Le (some x :: s) (some x :: t)
theorem Ag.refl : ∀ s : Spc, Ag s s
  | [] => .nil
  | none :: s => .skip none (Ag.refl s)
  | some x :: s => .keep x (Ag.refl s)
theorem Ag.weak {s t : Spc} {ρ : Env} (h : Ag t ρ) (l : Le s t) : Ag s ρ := by
  induction l generalizing ρ with
  | nil => exact h
  | @skip s t x l ih =>
    cases h with
    | skip y h => exact .skip _ (ih h)
    | keep y h => exact .skip _ (ih h)
  | keep l ih => cases h with | keep y h => exact .keep _ (ih h)
theorem Ag.get {s : Spc} {ρ : Env} {i : Nat} {x : DO} (h : Ag s ρ) (e : s[i]? = some (some x)) : ρ[i]? = some (some x) := by
  induction h generalizing i with
  | nil => simp at e
  | skip y h ih => cases i with
    | zero => simp at e
    | succ i => simpa using ih (by simpa using e)
  | keep y h ih => cases i with
    | zero => simpa using e
    | succ i => simpa using ih (by simpa using e)
theorem Ag.set {s : Spc} {ρ : Env} (h : Ag s ρ) (i : Nat) (x : DO) : Ag (s.set i (some x)) (ρ.set i (some x)) := by
  induction h generalizing i with
  | nil => exact .nil
  | skip y h ih => cases i with
    | zero => exact .keep _ h
    | succ i => exact .skip _ (ih i)
  | keep y h ih => cases i with
    | zero => exact .keep _ h
    | succ i => exact .keep _ (ih i)
theorem Ag.unset {s : Spc} {ρ : Env} (h : Ag s ρ) (i : Nat) (y : Option DO) : Ag (s.set i none) (ρ.set i y) := by
  induction h generalizing i with
  | nil => exact .nil
  | skip z h ih => cases i with
    | zero => exact .skip _ h
    | succ i => exact .skip _ (ih i)
  | keep z h ih => cases i with
    | zero => exact .skip _ h
    | succ i => exact .keep _ (ih i)
theorem Ag.len {s : Spc} {ρ : Env} (h : Ag s ρ) : ρ.length = s.length := by
  induction h with
  | nil => rfl
  | skip y h ih => simp [ih]
  | keep y h ih => simp [ih]
/-! ### the judgement -/
def indF (fs : List (String × D)) : Bool := fs.all fun p => indD p.2 .no
abbrev EP := Env → Prop
section
variable {α β γ δ : Type}
def LK (E : EP) (r : Rz β) (t : TR α) (P : α → β → Env → Prop) : Prop := match t with
  | .stuck => True
  | .ok a => ∃ b ρ', r = .ok b ρ' ∧ P a b ρ'
  | .err c fs => indF fs = true ∧ ∃ ρ', r = .err c fs ρ' ∧ E ρ'
def PE (enc : α → β) (sp : α → Spc) : α → β → Env → Prop := fun a b ρ => b = enc a ∧ Ag (sp a) ρ
theorem LK.stuck {E : EP} {r : Rz β} {P : α → β → Env → Prop} : LK E r (.stuck : TR α) P := trivial
theorem LK.mono {E E' : EP} {r : Rz β} {t : TR α} {P Q : α → β → Env → Prop} (h : LK E r t P) (hE : ∀ ρ, E ρ → E' ρ) (hP : ∀ a b ρ, P a b ρ → Q a b ρ) : LK E' r t Q := by
  cases t with
  | stuck => trivial
  | ok a => obtain ⟨b, ρ, h1, h2⟩ := h; exact ⟨b, ρ, h1, hP _ _ _ h2⟩
  | err c fs => obtain ⟨h0, ρ, h1, h2⟩ := h; exact ⟨h0, ρ, h1, hE _ h2⟩
theorem LK.bind0 {E : EP} {f : M β} {k : β → M γ} {ρ : Env} {t : TR α} {T : α → TR δ} {P : α → β → Env → Prop} {Q : δ → γ → Env → Prop} (h1 : LK E (f ρ) t P) (h2 : ∀ a b ρ', P a b ρ' → LK E (k b ρ') (T a) Q) : LK E (M.bind f k ρ) (t.bind T) Q := by
  cases t with
  | stuck => trivial
  | ok a =>
    obtain ⟨b, ρ', e, h⟩ := h1
    have := h2 a b ρ' h
    unfold M.bind
    rw [e]
    exact this
  | err c fs =>
    obtain ⟨h0, ρ', e, h⟩ := h1
    refine ⟨h0, ρ', ?_, h⟩
    unfold M.bind
    rw [e]
theorem LK.bind {E : EP} {f : M β} {k : β → M γ} {ρ : Env} {t : TR α} {T : α → TR δ} {enc : α → β} {sp : α → Spc} {Q : δ → γ → Env → Prop} (h1 : LK E (f ρ) t (PE enc sp)) (h2 : ∀ a ρ', Ag (sp a) ρ' → LK E (k (enc a) ρ') (T a) Q) : LK E (M.bind f k ρ) (t.bind T) Q :=
  h1.bind0 fun a b ρ' h => by obtain ⟨rfl, h⟩ := h; exact h2 a ρ' h
/-- bound to something pure behind it: the typed side is a map -/
theorem LK.bindp {E : EP} {f : M β} {k : β → M γ} {ρ : Env} {t : TR α} {T : α → δ} {enc : α → β} {sp : α → Spc} {Q : δ → γ → Env → Prop} (h1 : LK E (f ρ) t (PE enc sp)) (h2 : ∀ a ρ', Ag (sp a) ρ' → LK E (k (enc a) ρ') (.ok (T a)) Q) : LK E (M.bind f k ρ) (t.bind fun a => .ok (T a)) Q := LK.bind h1 h2
theorem LK.pure {E : EP} {f : M β} {k : β → M γ} {ρ : Env} {b : β} {T : TR δ} {Q : δ → γ → Env → Prop} (hf : f ρ = .ok b ρ) (h : LK E (k b ρ) T Q) : LK E (M.bind f k ρ) T Q := by
  unfold M.bind
  rw [hf]
  exact h
theorem LK.of {E : EP} {f : M β} {ρ : Env} {a : α} {enc : α → β} {sp : α → Spc} (hf : f ρ = .ok (enc a) ρ) (h : Ag (sp a) ρ) : LK E (f ρ) (.ok a) (PE enc sp) := ⟨_, _, hf, rfl, h⟩
/-- a typed partial operation that succeeds as the mirror's does -/
theorem LK.part {E : EP} {f : M β} {ρ : Env} {t : TR α} {enc : α → β} {s : Spc} (hn : ∀ c fs, t ≠ .err c fs) (hf : ∀ a, t = .ok a → f ρ = .ok (enc a) ρ) (h : Ag s ρ) : LK E (f ρ) t (PE enc fun _ => s) := by
  cases t with
  | stuck => trivial
  | ok a => exact ⟨_, _, hf a rfl, rfl, h⟩
  | err c fs => exact absurd rfl (hn c fs)
theorem LK.cast {E : EP} {r : Rz β} {t : TR α} {enc enc' : α → β} {sp : α → Spc} (h : LK E r t (PE enc sp)) (e : ∀ a, enc a = enc' a) : LK E r t (PE enc' sp) := by
  rwa [show enc' = enc from funext fun a => (e a).symm]
/-! a map of the result -/
theorem LK.map {E : EP} {r : Rz β} {t : TR α} {P : α → β → Env → Prop} {Q : δ → β → Env → Prop} {g : α → δ} (h : LK E r t P) (hg : ∀ a b ρ, P a b ρ → Q (g a) b ρ) : LK E r (t.bind fun a => .ok (g a)) Q := by
  cases t with
  | stuck => trivial
  | ok a => obtain ⟨b, ρ, h1, h2⟩ := h; exact ⟨b, ρ, h1, hg _ _ _ h2⟩
  | err c fs => exact h
end
/-! ### pure expressions -/
section
variable {s : Spc} {ρ : Env} {x y z : DO} {f fa fb fc : M DO} {fs : M (List DO)} {g g' : DO → DO → M DO} {d : D} {o : Own} {b c : Bool}
theorem pn (i : Nat) (h : Ag s ρ) (e : s[i]? = some (some x)) : mName i ρ = .ok x ρ := by
  unfold mName; rw [h.get e]
theorem pnF (i : Nat) (h : Ag s ρ) (e : s[i]? = some (some (d, .no))) : mNameF i ρ = .ok (d, .no) ρ := by
  unfold mNameF; rw [h.get e]
theorem pb {β γ : Type} {f : M β} {k : β → M γ} {b : β} {r : Rz γ} (hf : f ρ = .ok b ρ) (hk : k b ρ = r) : M.bind f k ρ = r := by
  unfold M.bind; rw [hf]; exact hk
theorem p1 {g : DO → M DO} (hf : f ρ = .ok x ρ) (hg : g x ρ = .ok z ρ) : m1 g f ρ = .ok z ρ := pb hf hg
theorem p2 (ha : fa ρ = .ok x ρ) (hb : fb ρ = .ok y ρ) (hg : g x y ρ = .ok z ρ) : m2 g fa fb ρ = .ok z ρ := pb ha (pb hb hg)
theorem p3 (ha : fa ρ = .ok x ρ) (hb : fb ρ = .ok y ρ) (hc : fc ρ = .ok z ρ) (hg : g x y ρ = .ok (.bl b, .no) ρ) (hg' : g' y z ρ = .ok (.bl c, .no) ρ) : m3 g g' fa fb fc ρ = .ok (.bl (b && c), .no) ρ := by
  refine pb ha (pb hb (pb (b := b) (pb hg rfl) ?_))
  cases b with
  | true => exact pb hc hg'
  | false => rfl
theorem pBool (hf : f ρ = .ok (.bl b, o) ρ) : mBool f ρ = .ok b ρ := pb hf rfl
theorem pTru (hf : f ρ = .ok (d, o) ρ) (h : dTru d = some b) : mTru f ρ = .ok b ρ := pb hf (by show M.opt _ ρ = _; rw [h]; rfl)
theorem pNotT {t : M Bool} (h : t ρ = .ok b ρ) : mNotT t ρ = .ok (!b) ρ := pb h rfl
theorem pAndT {t u : M Bool} (h : t ρ = .ok b ρ) (h' : u ρ = .ok c ρ) : mAndT t u ρ = .ok (b && c) ρ := pb h (by cases b <;> first | rfl | exact h')
theorem pOrT {t u : M Bool} (h : t ρ = .ok b ρ) (h' : u ρ = .ok c ρ) : mOrT t u ρ = .ok (b || c) ρ := pb h (by cases b <;> first | rfl | exact h')
theorem pNotV (h : f ρ = .ok (.bl b, o) ρ) : mNotV f ρ = .ok (.bl (!b), .no) ρ := pb (pBool h) rfl
theorem pAndV (h : f ρ = .ok (.bl b, o) ρ) (h' : fa ρ = .ok (.bl c, .no) ρ) : mAndV f fa ρ = .ok (.bl (b && c), .no) ρ := pb (pBool h) (by cases b <;> first | rfl | exact h')
theorem pOrV (h : f ρ = .ok (.bl b, o) ρ) (h' : fa ρ = .ok (.bl c, .no) ρ) : mOrV f fa ρ = .ok (.bl (b || c), .no) ρ := pb (pBool h) (by cases b <;> first | rfl | exact h')
theorem pChk (h : f ρ = .ok (d, .no) ρ) : mChk f ρ = .ok (d, .no) ρ := pb h rfl
theorem pFrz (h : f ρ = .ok (d, o) ρ) : mFrz f ρ = .ok (d, .no) ρ := pb h rfl
theorem pNil : mNil ρ = .ok [] ρ := rfl
theorem pCons {xs : List DO} (h : f ρ = .ok x ρ) (h' : fs ρ = .ok xs ρ) : mCons f fs ρ = .ok (x :: xs) ρ := pb h (pb h' rfl)
theorem pCall {xs : List DO} {g : List DO → M DO} (h : fs ρ = .ok xs ρ) (hg : g xs ρ = .ok z ρ) : mCall g fs ρ = .ok z ρ := pb h hg
theorem pTup {xs : List DO} (h : fs ρ = .ok xs ρ) (hn : allNo xs = true ∧ xs.length ≤ sizeLine) : mTup fs ρ = .ok (.tup (xs.map (·.1)), .no) ρ := pb h (if_pos hn)
theorem pLst {xs : List DO} (h : fs ρ = .ok xs ρ) (hn : allNo xs = true ∧ xs.length ≤ sizeLine) : mLst fs ρ = .ok (.lst (xs.map (·.1)), .lst .no) ρ := pb h (if_pos hn)
theorem pFld {tab : CT} {k : String} (h : f ρ = .ok x ρ) (hg : gFld tab k x ρ = .ok z ρ) : mFld tab k f ρ = .ok z ρ := pb h hg
theorem pMeth {T : String} {g : DO → List DO → M DO} {xs : List DO} (h : f ρ = .ok x ρ) (ht : dTy x.1 = some T) (h' : fs ρ = .ok xs ρ) (hg : g x xs ρ = .ok z ρ) : mMeth T g f fs ρ = .ok z ρ := pb h (by rw [if_pos ht]; exact pb h' hg)
theorem pPart {i : Int} (h : f ρ = .ok (.int i, o) ρ) : mPart f ρ = .ok (some i) ρ := pb h rfl
theorem pSl {fl fh : M (Option Int)} {lo hi : Option Int} (h : f ρ = .ok x ρ) (hl : fl ρ = .ok lo ρ) (hh : fh ρ = .ok hi ρ) (hg : gSl x lo hi ρ = .ok z ρ) : mSl f fl fh ρ = .ok z ρ := pb h (pb hl (pb hh hg))
theorem pIf {t : M Bool} (h : t ρ = .ok b ρ) (ha : b = true → fa ρ = .ok x ρ) (hb : b = false → fb ρ = .ok x ρ) : mIf t fa fb ρ = .ok x ρ := pb h (by cases b <;> first | exact hb rfl | exact ha rfl)
theorem pItems {ds : List D} (h : f ρ = .ok (d, o) ρ) (hd : itemsD d = some ds) : mItems f ρ = .ok ds ρ := pb h (by simp only [hd])
end
/-! ### statements -/
inductive Fo (S L R : Type) where
  | nx (s : S)
  | ct (l : L)
  | bk (l : L)
  | rt (r : R)
section
variable {α β γ δ S S' L L' R : Type}
def PF (sn : S → Spc) (sl : L → Spc) (er : R → DO) (sr : R → Env → Prop) : Fo S L R → Fl → Env → Prop
  | .nx s, b, ρ => b = .nx ∧ Ag (sn s) ρ
  | .ct l, b, ρ => b = .ct ∧ Ag (sl l) ρ
  | .bk l, b, ρ => b = .bk ∧ Ag (sl l) ρ
  | .rt r, b, ρ => b = .rt (er r) ∧ sr r ρ
def TR.seq (t : TR (Fo S L R)) (k : S → TR (Fo S' L R)) : TR (Fo S' L R) := match t with
  | .stuck => .stuck
  | .err c fs => .err c fs
  | .ok (.nx s) => k s
  | .ok (.ct l) => .ok (.ct l)
  | .ok (.bk l) => .ok (.bk l)
  | .ok (.rt r) => .ok (.rt r)
@[simp] theorem seq_nx (s : S) (k : S → TR (Fo S' L R)) : TR.seq (.ok (.nx s)) k = k s := (rfl)
@[simp] theorem seq_ct (s : L) (k : S → TR (Fo S' L R)) : TR.seq (.ok (.ct s)) k = .ok (.ct s) := (rfl)
@[simp] theorem seq_bk (s : L) (k : S → TR (Fo S' L R)) : TR.seq (.ok (.bk s)) k = .ok (.bk s) := (rfl)
@[simp] theorem seq_rt (s : R) (k : S → TR (Fo S' L R)) : TR.seq (.ok (.rt s)) k = .ok (.rt s) := (rfl)
@[simp] theorem seq_stuck (k : S → TR (Fo S' L R)) : TR.seq (.stuck : TR (Fo S L R)) k = .stuck := (rfl)
@[simp] theorem seq_err (c fs) (k : S → TR (Fo S' L R)) : TR.seq (.err c fs : TR (Fo S L R)) k = .err c fs := (rfl)
variable {E : EP} {ρ : Env} {f : M DO} {g h : M Fl} {s : Spc} {sn : S → Spc} {sn' : S' → Spc} {sl : L → Spc} {er : R → DO} {sr : R → Env → Prop} {Q : γ → Fl → Env → Prop} {T T' : TR γ}
theorem LS.nx {a : S} (hA : Ag (sn a) ρ) : LK E (mNx ρ) (.ok (.nx a)) (PF sn sl er sr) := ⟨_, _, rfl, rfl, hA⟩
theorem LS.ct {a : L} (hA : Ag (sl a) ρ) : LK E ((M.ret .ct : M Fl) ρ) (.ok (.ct a)) (PF sn sl er sr) := ⟨_, _, rfl, rfl, hA⟩
theorem LS.bk {a : L} (hA : Ag (sl a) ρ) : LK E ((M.ret .bk : M Fl) ρ) (.ok (.bk a)) (PF sn sl er sr) := ⟨_, _, rfl, rfl, hA⟩
theorem LS.rtN {a : R} (he : er a = (.non, .no)) (hA : sr a ρ) : LK E ((M.ret (.rt (.non, .no)) : M Fl) ρ) (.ok (.rt a)) (PF sn sl er sr) := ⟨_, _, rfl, by rw [he], hA⟩
theorem LS.seq {t : TR (Fo S L R)} {k : S → TR (Fo S' L R)} (h1 : LK E (g ρ) t (PF sn sl er sr)) (h2 : ∀ a ρ', Ag (sn a) ρ' → LK E (h ρ') (k a) (PF sn' sl er sr)) : LK E (mSeq g h ρ) (t.seq k) (PF sn' sl er sr) := by
  unfold mSeq
  cases t with
  | stuck => trivial
  | err c fs => obtain ⟨h0, ρ', e, he⟩ := h1; exact ⟨h0, ρ', by rw [e], he⟩
  | ok a =>
    obtain ⟨b, ρ', e, hp⟩ := h1
    rw [e]
    cases a with
    | nx a => obtain ⟨rfl, hA⟩ := hp; exact h2 a ρ' hA
    | ct a => obtain ⟨rfl, hA⟩ := hp; exact ⟨_, _, rfl, rfl, hA⟩
    | bk a => obtain ⟨rfl, hA⟩ := hp; exact ⟨_, _, rfl, rfl, hA⟩
    | rt a => obtain ⟨rfl, hA⟩ := hp; exact ⟨_, _, rfl, rfl, hA⟩
theorem mSeq_nx (g : M Fl) (ρ : Env) : mSeq g mNx ρ = g ρ := by
  unfold mSeq
  cases g ρ with
  | stuck => rfl
  | err c fs ρ' => rfl
  | ok a ρ' => cases a <;> rfl
theorem mSeq_assoc (f g h : M Fl) (ρ : Env) : mSeq (mSeq f g) h ρ = mSeq f (mSeq g h) ρ := by
  unfold mSeq
  cases f ρ with
  | stuck => rfl
  | err c fs ρ' => rfl
  | ok a ρ' => cases a <;> rfl
theorem LS.last (h1 : LK E (mSeq g mNx ρ) T Q) : LK E (g ρ) T Q := by rwa [mSeq_nx] at h1
theorem LS.assoc {f : M Fl} (h1 : LK E (mSeq f (mSeq g h) ρ) T Q) : LK E (mSeq (mSeq f g) h ρ) T Q := by rwa [mSeq_assoc]
theorem LS.pass (h1 : LK E (h ρ) T Q) : LK E (mSeq mNx h ρ) T Q := h1
theorem LS.ret_seq (h1 : LK E (mRet f ρ) T Q) : LK E (mSeq (mRet f) h ρ) T Q := by
  have e : mSeq (mRet f) h ρ = mRet f ρ := by
    unfold mSeq mRet M.bind
    cases f ρ <;> rfl
  rwa [e]
theorem LS.retN_seq {x : DO} (h1 : LK E ((M.ret (.rt x) : M Fl) ρ) T Q) : LK E (mSeq (M.ret (.rt x)) h ρ) T Q := h1
theorem LS.ct_seq (h1 : LK E ((M.ret .ct : M Fl) ρ) T Q) : LK E (mSeq (M.ret .ct) h ρ) T Q := h1
theorem LS.bk_seq (h1 : LK E ((M.ret .bk : M Fl) ρ) T Q) : LK E (mSeq (M.ret .bk) h ρ) T Q := h1
/-! an expression ahead of the rest -/
theorem seq_bind {β : Type} (f : M β) (k : β → M Fl) (h : M Fl) (ρ : Env) : mSeq (M.bind f k) h ρ = M.bind f (fun x => mSeq (k x) h) ρ := by
  unfold mSeq M.bind
  cases f ρ <;> rfl
theorem LS.setp {i : Nat} {x : DO} (hA : Ag s ρ) (hf : f ρ = .ok x ρ) (h2 : ∀ ρ', Ag (s.set i (some x)) ρ' → LK E (h ρ') T Q) : LK E (mSeq (mSet i f) h ρ) T Q := by
  rw [mSet, seq_bind]
  exact LK.pure hf (h2 _ (hA.set i x))
theorem LS.set {i : Nat} {t : TR α} {k : α → TR γ} {enc : α → DO} {sp : α → Spc} (hf : LK E (f ρ) t (PE enc sp)) (h2 : ∀ a ρ', Ag ((sp a).set i (some (enc a))) ρ' → LK E (h ρ') (k a) Q) : LK E (mSeq (mSet i f) h ρ) (t.bind k) Q := by
  rw [mSet, seq_bind]
  exact LK.bind hf fun a ρ' hA => h2 a _ (hA.set i _)
theorem LS.dropp {x : DO} (hf : f ρ = .ok x ρ) (h2 : LK E (h ρ) T Q) : LK E (mSeq (mDrop f) h ρ) T Q := by
  rw [mDrop, seq_bind]
  exact LK.pure hf h2
theorem LS.drop {t : TR α} {k : α → TR γ} {enc : α → DO} {sp : α → Spc} (hf : LK E (f ρ) t (PE enc sp)) (h2 : ∀ a ρ', Ag (sp a) ρ' → LK E (h ρ') (k a) Q) : LK E (mSeq (mDrop f) h ρ) (t.bind k) Q := by
  rw [mDrop, seq_bind]
  exact LK.bind hf fun a ρ' hA => h2 a _ hA
theorem LS.retp {a : R} (hf : f ρ = .ok (er a) ρ) (hA : sr a ρ) : LK E (mRet f ρ) (.ok (.rt a)) (PF sn sl er sr) := LK.pure hf ⟨_, _, rfl, rfl, hA⟩
theorem LS.ret {t : TR α} {k : α → R} {enc : α → DO} {sp : α → Spc} (hf : LK E (f ρ) t (PE enc sp)) (h2 : ∀ a, enc a = er (k a)) (h3 : ∀ a ρ', Ag (sp a) ρ' → sr (k a) ρ') : LK E (mRet f ρ) (t.bind fun a => .ok (.rt (k a))) (PF sn sl er sr) :=
  LK.bind hf fun a ρ' hA => ⟨_, _, rfl, by rw [h2], h3 a ρ' hA⟩
theorem LS.take {i : Nat} {a : R} (hA : Ag s ρ) (e : s[i]? = some (some (er a))) (h3 : ∀ ρ', Ag (s.set i none) ρ' → sr a ρ') : LK E (mRet (mTake i) ρ) (.ok (.rt a)) (PF sn sl er sr) := by
  unfold mRet mTake M.bind
  dsimp only
  rw [hA.get e]
  exact ⟨_, _, rfl, rfl, h3 _ (hA.unset i none)⟩
theorem LS.ifp {t : M Bool} {b : Bool} (ht : t ρ = .ok b ρ) (h1 : b = true → LK E (g ρ) T Q) (h2 : b = false → LK E (h ρ) T' Q) : LK E (mIfS t g h ρ) (if b = true then T else T') Q := by
  refine LK.pure ht ?_
  cases b with
  | true => exact h1 rfl
  | false => exact h2 rfl
theorem LS.if_ {t : M Bool} {u : TR α} {enc : α → Bool} {sp : α → Spc} {k k' : α → TR γ} (ht : LK E (t ρ) u (PE enc sp)) (h1 : ∀ a ρ', Ag (sp a) ρ' → enc a = true → LK E (g ρ') (k a) Q) (h2 : ∀ a ρ', Ag (sp a) ρ' → enc a = false → LK E (h ρ') (k' a) Q) : LK E (mIfS t g h ρ) (u.bind fun a => if enc a = true then k a else k' a) Q := by
  refine LK.bind ht fun a ρ' hA => ?_
  cases e : enc a with
  | true => exact h1 a ρ' hA e
  | false => exact h2 a ρ' hA e
theorem LS.if_seq {t : M Bool} {r : M Fl} (h1 : LK E (mIfS t (mSeq g r) (mSeq h r) ρ) T Q) : LK E (mSeq (mIfS t g h) r ρ) T Q := by
  have e : mSeq (mIfS t g h) r ρ = mIfS t (mSeq g r) (mSeq h r) ρ := by
    unfold mIfS
    rw [seq_bind]
    unfold M.bind
    cases t ρ with
    | stuck => rfl
    | err c fs ρ' => rfl
    | ok b ρ' => cases b <;> rfl
  rwa [e]
theorem LS.frz {i : Nat} {d : D} {o : Own} (hA : Ag s ρ) (e : s[i]? = some (some (d, o))) (h2 : ∀ ρ', Ag (s.set i (some (d, .no))) ρ' → LK E (g ρ') T Q) : LK E (mFreeze i g ρ) T Q := by
  unfold mFreeze
  rw [hA.get e]
  exact h2 _ (hA.set i _)
theorem LS.frz_seq {i : Nat} {d : D} {o : Own} (hA : Ag s ρ) (e : s[i]? = some (some (d, o))) (h2 : ∀ ρ', Ag (s.set i (some (d, .no))) ρ' → LK E (mSeq g h ρ') T Q) : LK E (mSeq (mFreeze i g) h ρ) T Q := by
  have e' : mSeq (mFreeze i g) h ρ = mFreeze i (mSeq g h) ρ := by
    unfold mSeq mFreeze
    rw [hA.get e]
  rw [e']
  exact LS.frz hA e h2
/-! loops -/
def forT (step : α → S → TR (Fo S S R)) : List α → S → TR (Fo S L R)
  | [], a => .ok (.nx a)
  | x :: xs, a => match step x a with
    | .ok (.nx a') => forT step xs a'
    | .ok (.ct a') => forT step xs a'
    | .ok (.bk a') => .ok (.nx a')
    | .ok (.rt r) => .ok (.rt r)
    | .stuck => .stuck
    | .err c fs => .err c fs
@[simp] theorem forT_nil (step : α → S → TR (Fo S S R)) (a : S) : forT (L := L) step [] a = .ok (.nx a) := (rfl)
theorem forT_cons (step : α → S → TR (Fo S S R)) (x : α) (xs : List α) (a : S) : forT (L := L) step (x :: xs) a = match step x a with
    | .ok (.nx a') => forT step xs a'
    | .ok (.ct a') => forT step xs a'
    | .ok (.bk a') => .ok (.nx a')
    | .ok (.rt r) => .ok (.rt r)
    | .stuck => .stuck
    | .err c fs => .err c fs := rfl
theorem LS.forgo {tg : Tgt} {encx : α → D} {sh : S → Spc} {sb : α → S → Spc} {step : α → S → TR (Fo S S R)} (htg : ∀ x a ρ, Ag (sh a) ρ → ∃ ρ1, tg (encx x) ρ = some ρ1 ∧ Ag (sb x a) ρ1)
    (hb : ∀ x a ρ, Ag (sb x a) ρ → LK E (g ρ) (step x a) (PF sh sh er sr)) : ∀ (xs : List α) (a : S) (ρ : Env), Ag (sh a) ρ → LK E (forGo tg g (xs.map encx) ρ) (forT (L := L) step xs a) (PF sh sl er sr)
  | [], a, ρ, hA => ⟨_, _, rfl, rfl, hA⟩
  | x :: xs, a, ρ, hA => by
    obtain ⟨ρ1, e1, h1⟩ := htg x a ρ hA
    have h2 := hb x a ρ1 h1
    rw [List.map_cons, forGo, forT_cons, e1]
    dsimp only
    cases e : step x a with
    | stuck => trivial
    | err c fs => rw [e] at h2; obtain ⟨h0, ρ', e2, he⟩ := h2; rw [e2]; exact ⟨h0, ρ', rfl, he⟩
    | ok r =>
      rw [e] at h2
      obtain ⟨b, ρ', e2, hp⟩ := h2
      rw [e2]
      cases r with
      | nx a' => obtain ⟨rfl, hA'⟩ := hp; exact LS.forgo htg hb xs a' ρ' hA'
      | ct a' => obtain ⟨rfl, hA'⟩ := hp; exact LS.forgo htg hb xs a' ρ' hA'
      | bk a' => obtain ⟨rfl, hA'⟩ := hp; exact ⟨_, _, rfl, rfl, hA'⟩
      | rt r => obtain ⟨rfl, hA'⟩ := hp; exact ⟨_, _, rfl, rfl, hA'⟩
theorem LS.forp {fi : M (List D)} {tg : Tgt} {encx : α → D} {sh : S → Spc} {sb : α → S → Spc} {step : α → S → TR (Fo S S R)} {xs : List α} {a : S} (hi : fi ρ = .ok (xs.map encx) ρ) (hA : Ag (sh a) ρ)
    (htg : ∀ x a ρ, Ag (sh a) ρ → ∃ ρ1, tg (encx x) ρ = some ρ1 ∧ Ag (sb x a) ρ1) (hb : ∀ x a ρ, Ag (sb x a) ρ → LK E (g ρ) (step x a) (PF sh sh er sr)) : LK E (mFor fi tg g ρ) (forT (L := L) step xs a) (PF sh sl er sr) :=
  LK.pure hi (LS.forgo htg hb xs a ρ hA)
theorem LS.for_ {fi : M (List D)} {tg : Tgt} {encx : α → D} {sh : S → Spc} {sb : α → S → Spc} {step : α → S → TR (Fo S S R)} {t : TR β} {sp : β → Spc} {xs : β → List α} {a : β → S} (hi : LK E (fi ρ) t (PE (fun b => (xs b).map encx) sp)) (hA : ∀ b ρ', Ag (sp b) ρ' → Ag (sh (a b)) ρ')
    (htg : ∀ x a ρ, Ag (sh a) ρ → ∃ ρ1, tg (encx x) ρ = some ρ1 ∧ Ag (sb x a) ρ1) (hb : ∀ x a ρ, Ag (sb x a) ρ → LK E (g ρ) (step x a) (PF sh sh er sr)) : LK E (mFor fi tg g ρ) (t.bind fun b => forT (L := L) step (xs b) (a b)) (PF sh sl er sr) :=
  LK.bind hi fun b ρ' h => LS.forgo htg hb (xs b) (a b) ρ' (hA b ρ' h)
theorem tg1 {sh : S → Spc} {i : Nat} {encx : α → D} (x : α) (a : S) (ρ : Env) (h : Ag (sh a) ρ) : ∃ ρ1, tgN i (encx x) ρ = some ρ1 ∧ Ag ((sh a).set i (some (encx x, .no))) ρ1 := ⟨_, rfl, h.set i _⟩
/-! while -/
def whileTN (t : S → TR Bool) (b : S → TR (Fo S S R)) : Nat → S → Option (TR (Fo S L R))
  | 0, _ => none
  | n + 1, a => match t a with
    | .stuck => some .stuck
    | .err c fs => some (.err c fs)
    | .ok false => some (.ok (.nx a))
    | .ok true => match b a with
      | .ok (.nx a') => whileTN t b n a'
      | .ok (.ct a') => whileTN t b n a'
      | .ok (.bk a') => some (.ok (.nx a'))
      | .ok (.rt r) => some (.ok (.rt r))
      | .stuck => some .stuck
      | .err c fs => some (.err c fs)
noncomputable def whileT (t : S → TR Bool) (b : S → TR (Fo S S R)) (a : S) : TR (Fo S L R) := open Classical in if h : ∃ n r, whileTN (L := L) t b n a = some r then Classical.choose h.choose_spec else .stuck
theorem whileTN_up {t : S → TR Bool} {b : S → TR (Fo S S R)} : ∀ {n m : Nat} {a : S} {r : TR (Fo S L R)}, whileTN t b n a = some r → n ≤ m → whileTN t b m a = some r
  | 0, _, _, _, h, _ => by cases h
  | n + 1, 0, _, _, _, h => by omega
  | n + 1, m + 1, a, r, h, hm => by
    rw [whileTN] at h ⊢
    cases et : t a with
    | stuck => rw [et] at h; exact h
    | err c fs => rw [et] at h; exact h
    | ok k =>
      rw [et] at h
      cases k with
      | false => exact h
      | true =>
        dsimp only at h ⊢
        cases eb : b a with
        | stuck => rw [eb] at h; exact h
        | err c fs => rw [eb] at h; exact h
        | ok q =>
          rw [eb] at h
          cases q with
          | nx a' => exact whileTN_up h (by omega)
          | ct a' => exact whileTN_up h (by omega)
          | bk a' => exact h
          | rt a' => exact h
theorem whileT_of {t : S → TR Bool} {b : S → TR (Fo S S R)} {n : Nat} {a : S} {r : TR (Fo S L R)} (h : whileTN t b n a = some r) : whileT t b a = r := by
  have hh : ∃ n r, whileTN (L := L) t b n a = some r := ⟨n, r, h⟩
  unfold whileT
  rw [dif_pos hh]
  have h1 := Classical.choose_spec hh.choose_spec
  have h2 := whileTN_up h (Nat.le_max_left n hh.choose)
  have h3 := whileTN_up h1 (Nat.le_max_right n hh.choose)
  exact Option.some.inj (h3.symm.trans h2)
theorem whileT_cases (t : S → TR Bool) (b : S → TR (Fo S S R)) (a : S) : whileT (L := L) t b a = .stuck ∨ ∃ n, whileTN t b n a = some (whileT (L := L) t b a) := by
  by_cases hh : ∃ n r, whileTN (L := L) t b n a = some r
  · obtain ⟨n, r, h⟩ := hh
    right
    exact ⟨n, by rw [h, whileT_of h]⟩
  · left
    unfold whileT
    rw [dif_neg hh]
/-- a while by a measure -/
theorem whileT_inv {t : S → TR Bool} {b : S → TR (Fo S S R)} (Inv : S → Prop) (m : S → Nat) (Post : S → Prop) (hs : ∀ a, Inv a → (t a = .ok false ∧ Post a) ∨ (t a = .ok true ∧ ∃ a', (b a = .ok (.nx a') ∨ b a = .ok (.ct a')) ∧ m a' < m a ∧ Inv a')) : ∀ a, Inv a → ∃ a', whileT (L := L) t b a = .ok (.nx a') ∧ Post a' := by
  have go : ∀ n a, m a ≤ n → Inv a → ∃ k a', whileTN (L := L) t b k a = some (.ok (.nx a')) ∧ Post a' := by
    intro n
    induction n with
    | zero =>
      intro a hm hi
      rcases hs a hi with ⟨h1, h2⟩ | ⟨h1, a', h2, h3, h4⟩
      · exact ⟨1, a, by rw [whileTN, h1], h2⟩
      · omega
    | succ n ih =>
      intro a hm hi
      rcases hs a hi with ⟨h1, h2⟩ | ⟨h1, a', h2, h3, h4⟩
      · exact ⟨1, a, by rw [whileTN, h1], h2⟩
      · obtain ⟨k, a2, q1, q2⟩ := ih a' (by omega) h4
        refine ⟨k + 1, a2, ?_, q2⟩
        rw [whileTN, h1]
        rcases h2 with h2 | h2 <;> (dsimp only; rw [h2]; exact q1)
  intro a hi
  obtain ⟨k, a', h1, h2⟩ := go (m a) a (Nat.le_refl _) hi
  exact ⟨a', whileT_of h1, h2⟩
theorem LS.while_ {tm : M Bool} {sh : S → Spc} {t : S → TR Bool} {b : S → TR (Fo S S R)} {a : S} (hA : Ag (sh a) ρ) (ht : ∀ a ρ, Ag (sh a) ρ → LK E (tm ρ) (t a) (PE id fun _ => sh a)) (hb : ∀ a ρ, Ag (sh a) ρ → LK E (g ρ) (b a) (PF sh sh er sr)) : LK E (mWhile tm g ρ) (whileT (L := L) t b a) (PF sh sl er sr) := by
  have go : ∀ n a ρ r, Ag (sh a) ρ → whileTN (L := L) t b n a = some r → LK E (mWhile tm g ρ) r (PF sh sl er sr) := by
    intro n
    induction n with
    | zero => intro a ρ r _ h; cases h
    | succ n ih =>
      intro a ρ r hA h
      rw [whileTN] at h
      have h1 := ht a ρ hA
      rw [mWhile_eq]
      cases et : t a with
      | stuck => rw [et] at h; cases h; trivial
      | err c fs =>
        rw [et] at h h1; cases h
        obtain ⟨h0, ρ', e, he⟩ := h1
        rw [e]; exact ⟨h0, ρ', rfl, he⟩
      | ok k =>
        rw [et] at h h1
        obtain ⟨k', ρ', e, ek, hA'⟩ := h1
        subst ek
        rw [e]
        cases k' with
        | false => cases h; exact ⟨_, _, rfl, rfl, hA'⟩
        | true =>
          dsimp only [id] at h ⊢
          have h2 := hb a ρ' hA'
          cases eb : b a with
          | stuck => rw [eb] at h; cases h; trivial
          | err c fs =>
            rw [eb] at h h2; cases h
            obtain ⟨h0, ρ'', e, he⟩ := h2
            rw [e]; exact ⟨h0, ρ'', rfl, he⟩
          | ok q =>
            rw [eb] at h h2
            obtain ⟨b', ρ'', e, hp⟩ := h2
            rw [e]
            cases q with
            | nx a' => obtain ⟨rfl, hA2⟩ := hp; exact ih _ _ _ hA2 h
            | ct a' => obtain ⟨rfl, hA2⟩ := hp; exact ih _ _ _ hA2 h
            | bk a' => obtain ⟨rfl, hA2⟩ := hp; cases h; exact ⟨_, _, rfl, rfl, hA2⟩
            | rt a' => obtain ⟨rfl, hA2⟩ := hp; cases h; exact ⟨_, _, rfl, rfl, hA2⟩
  rcases whileT_cases (L := L) t b a with h | ⟨n, h⟩
  · rw [h]; trivial
  · exact go n a ρ _ hA h
/-! invariants of typed for loops -/
theorem forT_inv {step : α → S → TR (Fo S S R)} (Inv : Nat → S → Prop) : ∀ {xs : List α} {a : S} (k : Nat), (∀ i x a, xs[i]? = some x → Inv (k + i) a → ∃ a', (step x a = .ok (.nx a') ∨ step x a = .ok (.ct a')) ∧ Inv (k + i + 1) a') → Inv k a → ∃ a', forT (L := L) step xs a = .ok (.nx a') ∧ Inv (k + xs.length) a'
  | [], a, k, _, h => ⟨a, rfl, h⟩
  | x :: xs, a, k, hs, h => by
    obtain ⟨a1, h1, h2⟩ := hs 0 x a rfl h
    obtain ⟨a2, h3, h4⟩ := forT_inv Inv (xs := xs) (a := a1) (k + 1) (fun i y b hi hI => by
      have := hs (i + 1) y b (by simpa using hi) (by rwa [show k + (i + 1) = k + 1 + i by omega])
      rwa [show k + (i + 1) = k + 1 + i by omega] at this) h2
    refine ⟨a2, ?_, by rwa [show k + (x :: xs).length = k + 1 + xs.length by simp; omega]⟩
    rw [forT_cons]
    rcases h1 with h1 | h1 <;> rw [h1] <;> exact h3
/-- .. that may be left by return -/
theorem forT_ret {step : α → S → TR (Fo S S R)} (Inv : Nat → S → Prop) (Out : R → Prop) : ∀ {xs : List α} {a : S} (k : Nat), (∀ i x a, xs[i]? = some x → Inv (k + i) a → (∃ a', (step x a = .ok (.nx a') ∨ step x a = .ok (.ct a')) ∧ Inv (k + i + 1) a') ∨ ∃ r, step x a = .ok (.rt r) ∧ Out r) → Inv k a → (∃ a', forT (L := L) step xs a = .ok (.nx a') ∧ Inv (k + xs.length) a') ∨ ∃ r, forT (L := L) step xs a = .ok (.rt r) ∧ Out r
  | [], a, k, _, h => .inl ⟨a, rfl, h⟩
  | x :: xs, a, k, hs, h => by
    rcases hs 0 x a rfl h with ⟨a1, h1, h2⟩ | ⟨r, h1, h2⟩
    · have ih := forT_ret Inv Out (xs := xs) (a := a1) (k + 1) (fun i y b hi hI => by
        have := hs (i + 1) y b (by simpa using hi) (by rwa [show k + (i + 1) = k + 1 + i by omega])
        rwa [show k + (i + 1) = k + 1 + i by omega] at this) h2
      have e : forT (L := L) step (x :: xs) a = forT step xs a1 := by rw [forT_cons]; rcases h1 with h1 | h1 <;> rw [h1]
      rw [e, show k + (x :: xs).length = k + 1 + xs.length by simp; omega]
      exact ih
    · exact .inr ⟨r, by rw [forT_cons, h1], h2⟩
end
end DL
/-! Typed layer: functions, calls, places, objects, operations. -/
namespace DL
open PySem PySem.Spec L2
/-! ### a function -/
section
variable {α β γ δ S L R : Type}
def LF (r : Rf) (t : TR α) (enc : α → DO) : Prop := match t with
  | .stuck => True
  | .ok a => r = .ok (enc a) [] ∧ indD (enc a).1 (enc a).2 = true
  | .err c fs => indF fs = true ∧ r = .err c fs []
def LFm (n : Nat) (r : Rf) (t : TR α) (enc : α → DO) (ms : α → List DO) : Prop := match t with
  | .stuck => True
  | .ok a => r = .ok (enc a) (ms a)
  | .err c fs => indF fs = true ∧ ∃ m, r = .err c fs m ∧ m.length = n
theorem LF.m {r : Rf} {t : TR α} {enc : α → DO} (h : LF r t enc) : LFm 0 r t enc fun _ => [] := by
  cases t with
  | stuck => trivial
  | ok a => exact h.1
  | err c fs => exact ⟨h.1, [], h.2, rfl⟩
/-- a body that always returns -/
def TR.fin (t : TR (Fo Empty Empty R)) : TR R := match t with
  | .ok (.rt r) => .ok r
  | .err c fs => .err c fs
  | _ => .stuck
/-- .. that never does -/
def TR.finN (t : TR (Fo R Empty R)) : TR R := match t with
  | .ok (.rt r) => .ok r
  | .ok (.nx r) => .ok r
  | .err c fs => .err c fs
  | _ => .stuck
@[simp] theorem fin_rt (r : R) : TR.fin (.ok (.rt r)) = .ok r := (rfl)
@[simp] theorem fin_err (c fs) : TR.fin (.err c fs : TR (Fo Empty Empty R)) = .err c fs := (rfl)
@[simp] theorem fin_stuck : TR.fin (.stuck : TR (Fo Empty Empty R)) = .stuck := (rfl)
@[simp] theorem finN_rt (r : R) : TR.finN (.ok (.rt r)) = .ok r := (rfl)
@[simp] theorem finN_nx (r : R) : TR.finN (.ok (.nx r)) = .ok r := (rfl)
@[simp] theorem finN_err (c fs) : TR.finN (.err c fs : TR (Fo R Empty R)) = .err c fs := (rfl)
abbrev E0 : EP := fun _ => True
abbrev spE0 : Empty → Spc := fun e => nomatch e
theorem LF.run {n : Nat} {ds : List DO} {g : M Fl} {t : TR (Fo Empty Empty R)} {er : R → DO} (hi : ∀ r, indD (er r).1 (er r).2 = true) (h : LK E0 (g (ds.map some ++ List.replicate (n - ds.length) none)) t (PF spE0 spE0 er fun _ _ => True)) : LF (runBody n [] g ds) t.fin er := by
  cases t with
  | stuck => trivial
  | err c fs => obtain ⟨h0, ρ, e, _⟩ := h; exact ⟨h0, by unfold runBody; rw [e]; rfl⟩
  | ok a =>
    obtain ⟨b, ρ, e, hp⟩ := h
    cases a with
    | nx s => exact nomatch s
    | ct s => exact nomatch s
    | bk s => exact nomatch s
    | rt r => obtain ⟨rfl, _⟩ := hp; exact ⟨by unfold runBody; rw [e]; rfl, hi r⟩
theorem LF.runN {n : Nat} {ds : List DO} {g : M Fl} {sn : R → Spc} {t : TR (Fo R Empty R)} {er : R → DO} (he : ∀ r, er r = (.non, .no)) (h : LK E0 (g (ds.map some ++ List.replicate (n - ds.length) none)) t (PF sn spE0 er fun _ _ => True)) : LF (runBody n [] g ds) t.finN er := by
  cases t with
  | stuck => trivial
  | err c fs => obtain ⟨h0, ρ, e, _⟩ := h; exact ⟨h0, by unfold runBody; rw [e]; rfl⟩
  | ok a =>
    obtain ⟨b, ρ, e, hp⟩ := h
    cases a with
    | nx s => obtain ⟨rfl, _⟩ := hp; exact ⟨by unfold runBody; rw [e, he]; rfl, by rw [he]; rfl⟩
    | ct s => exact nomatch s
    | bk s => exact nomatch s
    | rt r => obtain ⟨rfl, _⟩ := hp; exact ⟨by unfold runBody; rw [e]; rfl, by rw [he]; rfl⟩
/-! .. that changes some of its arguments -/
theorem takeMuts_mono : ∀ {mi : List Nat} {s : Spc} {ρ : Env} {ms : List DO}, Ag s ρ → takeMuts mi s = some ms → takeMuts mi ρ = some ms
  | [], s, ρ, ms, _, h => h
  | i :: mi, s, ρ, ms, hA, h => by
    rw [takeMuts] at h ⊢
    split at h
    · rename_i x r h1 h2
      rw [hA.get h1, takeMuts_mono (hA.unset i none) h2]
      exact h
    · cases h
theorem takeMuts_len : ∀ {mi : List Nat} {ρ : Env} {ms : List DO}, takeMuts mi ρ = some ms → ms.length = mi.length
  | [], ρ, ms, h => by cases h; rfl
  | i :: mi, ρ, ms, h => by
    rw [takeMuts] at h
    split at h
    · rename_i x r h1 h2; cases h; simp [takeMuts_len h2]
    · cases h
abbrev EM (mi : List Nat) : EP := fun ρ => ∃ ms, takeMuts mi ρ = some ms
theorem em {mi : List Nat} {s : Spc} {ρ : Env} {ms : List DO} (hA : Ag s ρ) (h : takeMuts mi s = some ms) : EM mi ρ := ⟨_, takeMuts_mono hA h⟩
theorem LFm.run {n : Nat} {mi : List Nat} {ds : List DO} {g : M Fl} {t : TR (Fo Empty Empty R)} {er : R → DO} {ms : R → List DO} (h : LK (EM mi) (g (ds.map some ++ List.replicate (n - ds.length) none)) t (PF spE0 spE0 er fun r ρ => takeMuts mi ρ = some (ms r))) : LFm mi.length (runBody n mi g ds) t.fin er ms := by
  cases t with
  | stuck => trivial
  | err c fs => obtain ⟨h0, ρ, e, m, hm⟩ := h; exact ⟨h0, m, by unfold runBody; rw [e]; dsimp only; rw [hm], takeMuts_len hm⟩
  | ok a =>
    obtain ⟨b, ρ, e, hp⟩ := h
    cases a with
    | nx s => exact nomatch s
    | ct s => exact nomatch s
    | bk s => exact nomatch s
    | rt r => obtain ⟨rfl, hm⟩ := hp; show runBody _ _ _ _ = _; unfold runBody; rw [e]; dsimp only; rw [hm]
theorem LFm.runN {n : Nat} {mi : List Nat} {ds : List DO} {g : M Fl} {sn : R → Spc} {t : TR (Fo R Empty R)} {er : R → DO} {ms : R → List DO} (he : ∀ r, er r = (.non, .no)) (hs : ∀ r, takeMuts mi (sn r) = some (ms r)) (h : LK (EM mi) (g (ds.map some ++ List.replicate (n - ds.length) none)) t (PF sn spE0 er fun r ρ => takeMuts mi ρ = some (ms r))) : LFm mi.length (runBody n mi g ds) t.finN er ms := by
  cases t with
  | stuck => trivial
  | err c fs => obtain ⟨h0, ρ, e, m, hm⟩ := h; exact ⟨h0, m, by unfold runBody; rw [e]; dsimp only; rw [hm], takeMuts_len hm⟩
  | ok a =>
    obtain ⟨b, ρ, e, hp⟩ := h
    cases a with
    | nx s => obtain ⟨rfl, hA⟩ := hp; show runBody _ _ _ _ = _; unfold runBody; rw [e]; dsimp only; rw [takeMuts_mono hA (hs s), he]
    | ct s => exact nomatch s
    | bk s => exact nomatch s
    | rt r => obtain ⟨rfl, hm⟩ := hp; show runBody _ _ _ _ = _; unfold runBody; rw [e]; dsimp only; rw [hm]
/-! ### calls -/
variable {E : EP} {ρ : Env} {s s' : Spc} {fs : M (List DO)} {xs : List DO} {m : List DO → Rf} {t : TR α} {enc : α → DO}
theorem rzB_lk {x : Rf} (hA : Ag s ρ) (hE : E ρ) (h : LF x t enc) : LK E (rzB x ρ) t (PE enc fun _ => s) := by
  cases t with
  | stuck => trivial
  | ok a => obtain ⟨h1, h2⟩ := h; subst h1; exact ⟨enc a, ρ, by unfold rzB; simp only [h2, if_true], rfl, hA⟩
  | err c gs => obtain ⟨h1, h2⟩ := h; subst h2; exact ⟨h1, ρ, by show (if _ then _ else _) = _; exact if_pos h1, hE⟩
theorem LK.callB (hf : fs ρ = .ok xs ρ) (hA : Ag s ρ) (hE : E ρ) (h : LF (m (xs.map noO)) t enc) : LK E (mCallB m fs ρ) t (PE enc fun _ => s) := LK.pure hf (rzB_lk hA hE h)
theorem LK.callBc {u : TR β} {encs : β → List DO} {sp : β → Spc} {t : β → TR α} {T : β → α → γ} {enc' : γ → DO} {sp' : γ → Spc} (hf : LK E (fs ρ) u (PE encs sp)) (h : ∀ b, LF (m ((encs b).map noO)) (t b) enc) (hE : ∀ b ρ', Ag (sp b) ρ' → E ρ') (h1 : ∀ b a, enc' (T b a) = enc a) (h2 : ∀ b a, sp' (T b a) = sp b) :
    LK E (mCallB m fs ρ) (u.bind fun b => (t b).bind fun a => .ok (T b a)) (PE enc' sp') :=
  LK.bind hf fun b ρ' hA => (rzB_lk hA (hE b ρ' hA) (h b)).map fun a x ρ'' hp => by
    obtain ⟨e, hB⟩ := hp
    exact ⟨by rw [h1]; exact e, by rw [h2]; exact hB⟩
theorem LK.methB {c mn : String} {fo : M DO} {x : DO} (ho : fo ρ = .ok x ρ) (hc : isOb c mn x = true) (hf : fs ρ = .ok xs ρ) (hA : Ag s ρ) (hE : E ρ) (h : LF (m ((x :: xs).map noO)) t enc) : LK E (mMethB c mn m fo fs ρ) t (PE enc fun _ => s) := by
  refine LK.pure ho ?_
  rw [if_pos hc]
  exact LK.pure hf (rzB_lk hA hE h)
theorem LK.methBc {c mn : String} {fo : M DO} {x : DO} {u : TR β} {encs : β → List DO} {sp : β → Spc} {t : β → TR α} {T : β → α → γ} {enc' : γ → DO} {sp' : γ → Spc} (ho : fo ρ = .ok x ρ) (hc : isOb c mn x = true) (hf : LK E (fs ρ) u (PE encs sp)) (h : ∀ b, LF (m ((x :: encs b).map noO)) (t b) enc) (hE : ∀ b ρ', Ag (sp b) ρ' → E ρ') (h1 : ∀ b a, enc' (T b a) = enc a) (h2 : ∀ b a, sp' (T b a) = sp b) :
    LK E (mMethB c mn m fo fs ρ) (u.bind fun b => (t b).bind fun a => .ok (T b a)) (PE enc' sp') := by
  refine LK.pure ho ?_
  rw [if_pos hc]
  exact LK.bind hf fun b ρ' hA => (rzB_lk hA (hE b ρ' hA) (h b)).map fun a x ρ'' hp => by
    obtain ⟨e, hB⟩ := hp
    exact ⟨by rw [h1]; exact e, by rw [h2]; exact hB⟩
theorem takeArgs_mono : ∀ {sl : List (Option Nat)} {xs ds : List DO} {s s' : Spc} {ρ : Env}, Ag s ρ → takeArgs sl xs s = some (ds, s') → ∃ ρ', takeArgs sl xs ρ = some (ds, ρ') ∧ Ag s' ρ'
  | [], [], ds, s, s', ρ, hA, h => by cases h; exact ⟨ρ, rfl, hA⟩
  | [], _ :: _, ds, s, s', ρ, hA, h => by cases h
  | none :: sl, [], ds, s, s', ρ, hA, h => by cases h
  | some _ :: sl, [], ds, s, s', ρ, hA, h => by cases h
  | none :: sl, x :: xs, ds, s, s', ρ, hA, h => by
    rw [takeArgs] at h ⊢
    split at h
    · rename_i ho
      cases e : takeArgs sl xs s with
      | none => rw [e] at h; cases h
      | some r =>
        rw [e] at h; cases h
        obtain ⟨ρ', e', hB⟩ := takeArgs_mono hA e
        exact ⟨ρ', by rw [e']; rfl, hB⟩
    · cases h
  | some i :: sl, x :: xs, ds, s, s', ρ, hA, h => by
    rw [takeArgs] at h ⊢
    split at h
    · rename_i y hy
      cases e : takeArgs sl xs (s.set i none) with
      | none => rw [e] at h; cases h
      | some r =>
        rw [e] at h; cases h
        obtain ⟨ρ', e', hB⟩ := takeArgs_mono (hA.unset i none) e
        exact ⟨ρ', by rw [hA.get hy]; dsimp only; rw [e']; rfl, hB⟩
    · cases h
theorem putMuts_mono : ∀ {sl : List (Option Nat)} {ms : List DO} {s : Spc} {ρ : Env}, Ag s ρ → Ag (putMuts sl ms s) (putMuts sl ms ρ)
  | [], ms, s, ρ, hA => by cases ms <;> exact hA
  | none :: sl, ms, s, ρ, hA => putMuts_mono (sl := sl) hA
  | some i :: sl, [], s, ρ, hA => hA
  | some i :: sl, x :: ms, s, ρ, hA => putMuts_mono (sl := sl) (hA.set i x)
theorem callF_lk {k : Nat} {sl : List (Option Nat)} {ds : List DO} {ms : α → List DO} (hA : Ag s ρ) (ht : takeArgs sl xs s = some (ds, s')) (h : LFm k (m ds) t enc ms) (hE : ∀ ρ', Ag s' ρ' → ∀ m : List DO, m.length = k → E (putMuts sl m ρ')) :
    LK E ((match takeArgs sl xs ρ with
      | none => Rz.stuck
      | some (ds, ρ') => match m ds with
        | .stuck => .stuck
        | .ok x ms => .ok x (putMuts sl ms ρ')
        | .err c fs ms => .err c fs (putMuts sl ms ρ')) : Rz DO) t (PE enc fun a => putMuts sl (ms a) s') := by
  obtain ⟨ρ', e, hB⟩ := takeArgs_mono hA ht
  rw [e]
  dsimp only
  cases t with
  | stuck => trivial
  | ok a =>
    have h : m ds = .ok (enc a) (ms a) := h
    rw [h]
    exact ⟨_, _, rfl, rfl, putMuts_mono hB⟩
  | err c gs =>
    obtain ⟨h0, m', e', hl⟩ := h
    rw [e']
    exact ⟨h0, _, rfl, hE ρ' hB m' hl⟩
theorem LK.callF {k : Nat} {sl : List (Option Nat)} {ds : List DO} {ms : α → List DO} (hf : fs ρ = .ok xs ρ) (hA : Ag s ρ) (ht : takeArgs sl xs s = some (ds, s')) (h : LFm k (m ds) t enc ms) (hE : ∀ ρ', Ag s' ρ' → ∀ m : List DO, m.length = k → E (putMuts sl m ρ')) : LK E (mCallF m sl fs ρ) t (PE enc fun a => putMuts sl (ms a) s') :=
  LK.pure hf (callF_lk hA ht h hE)
theorem LK.callFc {k : Nat} {sl : List (Option Nat)} {u : TR β} {encs : β → List DO} {sp sp2 : β → Spc} {t : β → TR α} {ds : β → List DO} {ms : β → α → List DO} {T : β → α → γ} {enc' : γ → DO} {sp' : γ → Spc} (hf : LK E (fs ρ) u (PE encs sp)) (ht : ∀ b, takeArgs sl (encs b) (sp b) = some (ds b, sp2 b)) (h : ∀ b, LFm k (m (ds b)) (t b) enc (ms b))
    (hE : ∀ b ρ', Ag (sp2 b) ρ' → ∀ m : List DO, m.length = k → E (putMuts sl m ρ')) (h1 : ∀ b a, enc' (T b a) = enc a) (h2 : ∀ b a, sp' (T b a) = putMuts sl (ms b a) (sp2 b)) : LK E (mCallF m sl fs ρ) (u.bind fun b => (t b).bind fun a => .ok (T b a)) (PE enc' sp') :=
  LK.bind hf fun b ρ' hA => (callF_lk hA (ht b) (h b) (hE b)).map fun a x ρ'' hp => by
    obtain ⟨e, hB⟩ := hp
    exact ⟨by rw [h1]; exact e, by rw [h2]; exact hB⟩
theorem LK.methL {c mn : String} {i k : Nat} {x : DO} {sl : List (Option Nat)} {ds : List DO} {ms : α → List DO} (hA : Ag s ρ) (e : s[i]? = some (some x)) (hc : isOb c mn x = true) (hf : fs ρ = .ok xs ρ) (ht : takeArgs (some i :: sl) ((.hole, .no) :: xs) s = some (ds, s')) (h : LFm k (m ds) t enc ms) (hE : ∀ ρ', Ag s' ρ' → ∀ m : List DO, m.length = k → E (putMuts (some i :: sl) m ρ')) : LK E (mMethL c mn m sl i fs ρ) t (PE enc fun a => putMuts (some i :: sl) (ms a) s') := by
  refine LK.pure (pn i hA e) ?_
  rw [if_pos hc]
  exact LK.callF (xs := (.hole, .no) :: xs) (pb hf rfl) hA ht h hE
theorem LK.methLc {c mn : String} {i k : Nat} {x : DO} {sl : List (Option Nat)} {u : TR β} {encs : β → List DO} {sp sp2 : β → Spc} {t : β → TR α} {ds : β → List DO} {ms : β → α → List DO} {T : β → α → γ} {enc' : γ → DO} {sp' : γ → Spc} (hA : Ag s ρ) (e : s[i]? = some (some x)) (hc : isOb c mn x = true) (hf : LK E (fs ρ) u (PE encs sp)) (ht : ∀ b, takeArgs (some i :: sl) ((.hole, .no) :: encs b) (sp b) = some (ds b, sp2 b)) (h : ∀ b, LFm k (m (ds b)) (t b) enc (ms b))
    (hE : ∀ b ρ', Ag (sp2 b) ρ' → ∀ m : List DO, m.length = k → E (putMuts (some i :: sl) m ρ')) (h1 : ∀ b a, enc' (T b a) = enc a) (h2 : ∀ b a, sp' (T b a) = putMuts (some i :: sl) (ms b a) (sp2 b)) : LK E (mMethL c mn m sl i fs ρ) (u.bind fun b => (t b).bind fun a => .ok (T b a)) (PE enc' sp') := by
  refine LK.pure (pn i hA e) ?_
  rw [if_pos hc]
  refine LK.callFc (encs := fun b => (.hole, .no) :: encs b) (sp := sp) ?_ ht h hE h1 h2
  have := LK.bind (T := fun b => TR.ok b) (Q := PE (fun b => (.hole, .no) :: encs b) sp) (k := fun xs => M.ret ((.hole, .no) :: xs)) hf fun b ρ' hB => ⟨_, _, rfl, rfl, hB⟩
  cases u <;> exact this
theorem takeArgs_none : ∀ {sl : List (Option Nat)} {xs ds : List DO} {ρ ρ' : Env}, (∀ x ∈ sl, x = none) → takeArgs sl xs ρ = some (ds, ρ') → ρ' = ρ
  | [], [], ds, ρ, ρ', _, h => by cases h; rfl
  | [], _ :: _, ds, ρ, ρ', _, h => by cases h
  | none :: sl, [], ds, ρ, ρ', _, h => by cases h
  | some i :: sl, xs, ds, ρ, ρ', hs, h => by have := hs (some i) (List.mem_cons_self ..); cases this
  | none :: sl, x :: xs, ds, ρ, ρ', hs, h => by
    rw [takeArgs] at h
    split at h
    · cases e : takeArgs sl xs ρ with
      | none => rw [e] at h; cases h
      | some r => rw [e] at h; cases h; exact takeArgs_none (fun y m => hs y (List.mem_cons_of_mem _ m)) e
    · cases h
theorem putMuts_none : ∀ {sl : List (Option Nat)} {ms : List DO} {ρ : Env}, (∀ x ∈ sl, x = none) → putMuts sl ms ρ = ρ
  | [], ms, ρ, _ => by cases ms <;> rfl
  | none :: sl, ms, ρ, hs => putMuts_none (sl := sl) fun y m => hs y (List.mem_cons_of_mem _ m)
  | some i :: sl, ms, ρ, hs => by have := hs (some i) (List.mem_cons_self ..); cases this
theorem LK.make {c : String} {sl : List (Option Nat)} {ds : List DO} {self : α → DO} (hf : fs ρ = .ok xs ρ) (hA : Ag s ρ) (ht : takeArgs sl xs s = some (ds, s)) (hs : ∀ x ∈ sl, x = none) (hE : E ρ) (h : LFm 1 (m ((.obj c [], .obj []) :: ds)) t (fun _ => (.non, .no)) fun a => [self a]) : LK E (mMake c m sl fs ρ) t (PE self fun _ => s) := by
  refine LK.pure hf ?_
  obtain ⟨ρ', e, hB⟩ := takeArgs_mono hA ht
  have e2 := takeArgs_none hs e
  subst e2
  rw [e]
  dsimp only
  cases t with
  | stuck => trivial
  | ok a =>
    have h : m ((.obj c [], .obj []) :: ds) = .ok (.non, .no) [self a] := h
    rw [h]
    exact ⟨_, _, rfl, rfl, by rw [putMuts_none hs]; exact hA⟩
  | err c' gs =>
    obtain ⟨h0, m', e', hl⟩ := h
    match m', hl with
    | [y], _ =>
      rw [e']
      exact ⟨h0, _, rfl, by rw [putMuts_none hs]; exact hE⟩
/-! ### places -/
theorem getP_mono {tab : CT} {pl : Pl} {x : DO} (hA : Ag s ρ) (h : getP tab pl s = some x) : getP tab pl ρ = some x := by
  cases pl with
  | s i =>
    dsimp only [getP] at h ⊢
    split at h
    · rename_i y hy; rw [hA.get hy]; exact h
    · cases h
  | f i fn =>
    dsimp only [getP] at h ⊢
    split at h
    · rename_i hy; rw [hA.get hy]; exact h
    · cases h
theorem setP_mono {tab : CT} {pl : Pl} {x : DO} {d : D} (hA : Ag s ρ) (h : getP tab pl s = some x) : Ag (setP pl d s) (setP pl d ρ) := by
  cases pl with
  | s i =>
    dsimp only [getP] at h
    dsimp only [setP]
    split at h
    · rename_i y hy; rw [hA.get hy, hy]; exact hA.set _ _
    · cases h
  | f i fn =>
    dsimp only [getP] at h
    dsimp only [setP]
    split at h
    · rename_i hy; rw [hA.get hy, hy]; exact hA.set _ _
    · cases h
def appT (xs : List α) (x : α) : TR (List α) := TR.guard (decide (xs.length < sizeLine)) (xs ++ [x])
theorem appT_ok {xs : List α} {x : α} (h : xs.length < sizeLine) : appT xs x = .ok (xs ++ [x]) := if_pos (decide_eq_true h)
theorem LK.append {tab : CT} {pl : Pl} {ys : List α} {y : α} {e : α → D} {c : Own} {x : DO} (hA : Ag s ρ) (hf : fs ρ = .ok [x] ρ) (hx : x = (e y, c)) (hg : getP tab pl s = some (.lst (ys.map e), .lst c)) (hc : sameOwn c c = true) : LK E (mAppend tab pl fs ρ) (appT ys y) (PE (fun _ => (.non, .no)) fun zs => setP pl (.lst (zs.map e)) s) := by
  have hg' := getP_mono hA hg
  unfold mAppend appT TR.guard
  rw [hg']
  dsimp only
  refine LK.pure hf ?_
  skip
  rw [hg']
  subst hx
  by_cases h : ys.length < sizeLine
  · dsimp only
    rw [if_pos (decide_eq_true h), if_pos ⟨hc, by simpa using h⟩]
    exact ⟨_, _, rfl, rfl, by simpa using setP_mono hA hg⟩
  · rw [if_neg (by simpa using h)]; trivial
theorem LK.appendc {tab : CT} {pl : Pl} {u : TR β} {sp : β → Spc} {ys : β → List α} {y : β → α} {e : α → D} {c : Own} {encs : β → List DO} {x0 : DO} {T : β → List α → γ} {sp' : γ → Spc} (hA : Ag s ρ) (hg0 : ∃ d o, getP tab pl s = some (.lst d, .lst o)) (hf : LK E (fs ρ) u (PE encs sp)) (hx : ∀ b, encs b = [(e (y b), c)]) (hg : ∀ b, getP tab pl (sp b) = some (.lst ((ys b).map e), .lst c)) (hc : sameOwn c c = true)
    (h2 : ∀ b zs, sp' (T b zs) = setP pl (.lst (zs.map e)) (sp b)) : LK E (mAppend tab pl fs ρ) (u.bind fun b => (appT (ys b) (y b)).bind fun zs => .ok (T b zs)) (PE (fun _ => (.non, .no)) sp') := by
  obtain ⟨d0, o0, hg0⟩ := hg0
  unfold mAppend
  rw [getP_mono hA hg0]
  dsimp only
  refine LK.bind hf fun b ρ' hB => ?_
  have hg' := getP_mono hB (hg b)
  rw [hx b, hg']
  unfold appT TR.guard
  by_cases h : (ys b).length < sizeLine
  · dsimp only
    rw [if_pos (decide_eq_true h), if_pos ⟨hc, by simpa using h⟩]
    exact ⟨_, _, rfl, rfl, by rw [h2]; simpa using setP_mono hB (hg b)⟩
  · rw [if_neg (by simpa using h)]; trivial
theorem LS.put {tab : CT} {pl : Pl} {fk fv : M DO} {h : M Fl} {k v y : DO} {t : TR α} {encD : α → D} {T : α → TR γ} {Q : γ → Fl → Env → Prop} (hA : Ag s ρ) (hv : fv ρ = .ok v ρ) (hk : fk ρ = .ok k ρ) (hg : getP tab pl s = some y) (hn : ∀ c fs, t ≠ .err c fs) (hp : ∀ a, t = .ok a → putD k.1 v y = some (encD a)) (h2 : ∀ a ρ', Ag (setP pl (encD a) s) ρ' → LK E (h ρ') (T a) Q) : LK E (mSeq (mPut tab pl fk fv) h ρ) (t.bind T) Q := by
  have hg' := getP_mono hA hg
  have e0 : mPut tab pl fk fv ρ = match putD k.1 v y with | some d => .ok .nx (setP pl d ρ) | none => .stuck := by
    refine pb hv ?_
    simp only [hg']
    exact pb hk (by simp only [hg'] <;> rfl)
  cases t with
  | stuck => trivial
  | err c fs => exact absurd rfl (hn c fs)
  | ok a =>
    unfold mSeq
    rw [e0, hp a rfl]
    exact h2 a _ (setP_mono hA hg)
theorem LS.unp {tg : Tgt} {fe : M DO} {h : M Fl} {d : D} {s1 : Spc} {T : TR γ} {Q : γ → Fl → Env → Prop} (hA : Ag s ρ) (hf : fe ρ = .ok (d, .no) ρ) (ht : ∀ ρ, Ag s ρ → ∃ ρ1, tg d ρ = some ρ1 ∧ Ag s1 ρ1) (h2 : ∀ ρ', Ag s1 ρ' → LK E (h ρ') T Q) : LK E (mSeq (mUnp tg fe) h ρ) T Q := by
  obtain ⟨ρ1, e, hB⟩ := ht ρ hA
  have e0 : mUnp tg fe ρ = .ok .nx ρ1 := by
    refine pb hf ?_
    dsimp only
    rw [e]
  unfold mSeq
  rw [e0]
  exact h2 ρ1 hB
theorem LS.unpc {tg : Tgt} {fe : M DO} {h : M Fl} {t : TR α} {encD : α → D} {sp s1 : α → Spc} {T : α → TR γ} {Q : γ → Fl → Env → Prop} (hf : LK E (fe ρ) t (PE (fun a => (encD a, .no)) sp)) (ht : ∀ a ρ, Ag (sp a) ρ → ∃ ρ1, tg (encD a) ρ = some ρ1 ∧ Ag (s1 a) ρ1) (h2 : ∀ a ρ', Ag (s1 a) ρ' → LK E (h ρ') (T a) Q) : LK E (mSeq (mUnp tg fe) h ρ) (t.bind T) Q := by
  rw [mUnp, seq_bind]
  refine LK.bind hf fun a ρ' hA => ?_
  obtain ⟨ρ1, e, hB⟩ := ht a ρ' hA
  unfold mSeq
  dsimp only
  rw [e]
  exact h2 a ρ1 hB
theorem LS.fset {tab : CT} {i : Nat} {f c : String} {fe : M DO} {h : M Fl} {x : DO} {fds fds' : List (String × D)} {fo fo' : List (String × Own)} {T : TR γ} {Q : γ → Fl → Env → Prop} (hA : Ag s ρ) (hf : fe ρ = .ok x ρ) (e : s[i]? = some (some (.obj c fds, .obj fo))) (hc : hasF tab c f = true ∧ fds.length < 1000 ∧ (fds.map (·.1)).Nodup) (h1 : fput f x.1 fds = fds') (h2 : oput f x.1 x.2 fo = fo')
    (h3 : ∀ ρ', Ag (s.set i (some (.obj c fds', .obj fo'))) ρ' → LK E (h ρ') T Q) : LK E (mSeq (mFSet tab i f fe) h ρ) T Q := by
  have e0 : mFSet tab i f fe ρ = .ok .nx (ρ.set i (some (.obj c fds', .obj fo'))) := by
    refine pb hf ?_
    skip
    rw [hA.get e]
    dsimp only
    rw [if_pos hc, h1, h2]
  unfold mSeq
  rw [e0]
  exact h3 _ (hA.set i _)
theorem LS.fsetc {tab : CT} {i : Nat} {f c : String} {fe : M DO} {h : M Fl} {t : TR α} {enc : α → DO} {sp : α → Spc} {fds fds' : α → List (String × D)} {fo fo' : α → List (String × Own)} {T : α → TR γ} {Q : γ → Fl → Env → Prop} (hf : LK E (fe ρ) t (PE enc sp)) (e : ∀ a, (sp a)[i]? = some (some (.obj c (fds a), .obj (fo a)))) (hc : ∀ a, hasF tab c f = true ∧ (fds a).length < 1000 ∧ ((fds a).map (·.1)).Nodup) (h1 : ∀ a, fput f (enc a).1 (fds a) = fds' a) (h2 : ∀ a, oput f (enc a).1 (enc a).2 (fo a) = fo' a)
    (h3 : ∀ a ρ', Ag ((sp a).set i (some (.obj c (fds' a), .obj (fo' a)))) ρ' → LK E (h ρ') (T a) Q) : LK E (mSeq (mFSet tab i f fe) h ρ) (t.bind T) Q := by
  rw [mFSet, seq_bind]
  refine LK.bind hf fun a ρ' hA => ?_
  unfold mSeq
  dsimp only
  rw [hA.get (e a)]
  dsimp only
  rw [if_pos (hc a), h1, h2]
  exact h3 a _ (hA.set i _)
theorem LS.raise {c : String} {fns : List String} {fs : M (List DO)} {h : M Fl} {xs : List DO} {Q : γ → Fl → Env → Prop} (hf : fs ρ = .ok xs ρ) (hl : xs.length = fns.length ∧ fns.length ≤ 1000) (hn : allNo xs = true) (hi : indF (fns.zip (xs.map (·.1))).reverse = true) (hE : E ρ) : LK E (mRaise c fns fs ρ) (.err c (fns.zip (xs.map (·.1))).reverse : TR γ) Q := by
  refine ⟨hi, ρ, pb hf ?_, hE⟩
  skip
  rw [if_pos hl]
  exact if_pos hn
theorem LS.raise_seq {c : String} {fns : List String} {fs : M (List DO)} {h : M Fl} {T : TR γ} {Q : γ → Fl → Env → Prop} (h1 : LK E (mRaise c fns fs ρ) T Q) : LK E (mSeq (mRaise c fns fs) h ρ) T Q := by
  have e : mSeq (mRaise c fns fs) h ρ = mRaise c fns fs ρ := by
    have hn : ∀ ρ', mRaise c fns fs ρ ≠ .ok .nx ρ' := by
      intro ρ'
      unfold mRaise M.bind
      cases fs ρ with
      | stuck => exact fun e => nomatch e
      | err c fs ρ' => exact fun e => nomatch e
      | ok xs ρ' =>
        dsimp only
        split
        · split
          · exact fun e => nomatch e
          · exact fun e => nomatch e
        · exact fun e => nomatch e
    unfold mSeq
    cases e : mRaise c fns fs ρ with
    | stuck => rfl
    | err c fs ρ' => rfl
    | ok a ρ' =>
      cases a with
      | nx => exact absurd e (hn ρ')
      | _ => rfl
  rwa [e]
/-! ### try -/
def tryT (xm : XM) (t : TR (Fo S L R)) (h : String → List (String × D) → TR (Fo S L R)) : TR (Fo S L R) := match t with
  | .err c fs => (match xm.lookup c with
    | some true => (match h c fs with | .ok a => .ok a | _ => .stuck)
    | some false => .err c fs
    | none => .stuck)
  | r => r
@[simp] theorem tryT_ok (xm : XM) (a : Fo S L R) (h) : tryT xm (.ok a) h = .ok a := (rfl)
theorem LS.try_ {i : Nat} {xm : XM} {g : M Fl} {hm : String → List (String × D) → M Fl} {t : TR (Fo S L R)} {th : String → List (String × D) → TR (Fo S L R)} {sn : S → Spc} {sl : L → Spc} {er : R → DO} {sr : R → Env → Prop} {sx : Spc} (hg : LK (fun ρ => Ag sx ρ ∧ E ρ) (g ρ) t (PF sn sl er sr)) (hi : i < sx.length)
    (hh : ∀ c fs ρ', Ag (sx.set i (some (.hole, .no))) ρ' → indF fs = true → xm.lookup c = some true → LK (fun _ => True) (hm c fs ρ') (th c fs) (PF (fun a => (sn a).set i none) (fun a => (sl a).set i none) er sr)) (hn : ∀ a : S, (sn a)[i]? = some none) (hl : ∀ a : L, (sl a)[i]? = some none) (hr : ∀ r ρ, sr r ρ → sr r (ρ.set i none)) : LK E (mTry i xm g hm ρ) (tryT xm t th) (PF sn sl er sr) := by
  have back : ∀ (s : Spc), s[i]? = some none → s.set i none = s := fun s h => by
    obtain ⟨hb, e⟩ := List.getElem?_eq_some_iff.mp h
    rw [← e]; exact List.set_getElem_self hb
  unfold mTry
  cases t with
  | stuck => trivial
  | ok a =>
    obtain ⟨b, ρ', e, hp⟩ := hg
    rw [e]
    exact ⟨b, ρ', rfl, hp⟩
  | err c fs =>
    obtain ⟨h0, ρ', e, hA, hE⟩ := hg
    rw [e]
    dsimp only [tryT]
    cases ex : xm.lookup c with
    | none => trivial
    | some k =>
      cases k with
      | false => exact ⟨h0, ρ', rfl, hE⟩
      | true =>
        dsimp only
        rw [if_pos (by rw [hA.len]; exact hi)]
        have h1 := hh c fs _ (hA.set i (.hole, .no)) h0 ex
        cases et : th c fs with
        | stuck => trivial
        | err _ _ => trivial
        | ok a =>
          rw [et] at h1
          obtain ⟨b, ρ2, e2, hp⟩ := h1
          rw [e2]
          refine ⟨b, _, rfl, ?_⟩
          cases a with
          | nx a => obtain ⟨rfl, hB⟩ := hp; have := hB.unset i none; rw [List.set_set, back _ (hn a)] at this; exact ⟨rfl, this⟩
          | ct a => obtain ⟨rfl, hB⟩ := hp; have := hB.unset i none; rw [List.set_set, back _ (hl a)] at this; exact ⟨rfl, this⟩
          | bk a => obtain ⟨rfl, hB⟩ := hp; have := hB.unset i none; rw [List.set_set, back _ (hl a)] at this; exact ⟨rfl, this⟩
          | rt a => obtain ⟨rfl, hB⟩ := hp; exact ⟨rfl, hr _ _ hB⟩
end
end DL
/-! Typed layer: encodings and operations. -/
namespace DL
open PySem PySem.Spec L2
section
variable {α β γ δ κ : Type}
abbrev eNon (_ : Unit) : D := .non
abbrev eD (d : D) : D := d
abbrev eTup (e : α → D) (xs : List α) : D := .tup (xs.map e)
abbrev eLst (e : α → D) (xs : List α) : D := .lst (xs.map e)
abbrev eLsk (e : α → D) (xs : List α) : D := .lsk (xs.map e)
abbrev eP1 (e : α → D) (p : α) : D := .tup [e p]
abbrev eP2 (e : α → D) (f : β → D) (p : α × β) : D := .tup [e p.1, f p.2]
abbrev eP3 (e : α → D) (f : β → D) (g : γ → D) (p : α × β × γ) : D := .tup [e p.1, f p.2.1, g p.2.2]
abbrev eP4 (e : α → D) (f : β → D) (g : γ → D) (h : δ → D) (p : α × β × γ × δ) : D := .tup [e p.1, f p.2.1, g p.2.2.1, h p.2.2.2]
abbrev eL4 (e : α → D) (f : β → D) (g : γ → D) (h : δ → D) (p : α × β × γ × δ) : D := .lst [e p.1, f p.2.1, g p.2.2.1, h p.2.2.2]
abbrev eDic (k : κ → Key) (e : α → D) (kvs : List (κ × α)) : D := .dic (kvs.map fun p => (k p.1, e p.2))
abbrev eDit (k : κ → List Key) (e : α → D) (kvs : List (κ × α)) : D := .dit (kvs.map fun p => (k p.1, e p.2))
def eOpt (e : α → D) : Option α → D
  | none => .non
  | some a => e a
@[simp] theorem eOpt_none (e : α → D) : eOpt e none = .non := (rfl)
@[simp] theorem eOpt_some (e : α → D) (a : α) : eOpt e (some a) = e a := (rfl)
abbrev kI (i : Int) : Key := .inl i
abbrev kS (i : Str) : Key := .inr i
abbrev kII (p : Int × Int) : List Key := [.inl p.1, .inl p.2]
/-! a partial operation -/
structure PO (m : M β) (t : TR α) (enc : α → β) : Prop where
  ne : ∀ c fs, t ≠ .err c fs
  eq : ∀ a, t = .ok a → ∀ ρ, m ρ = .ok (enc a) ρ
theorem LK.po {E : EP} {m : M β} {t : TR α} {enc : α → β} {s : Spc} {ρ : Env} (h : PO m t enc) (hA : Ag s ρ) : LK E (m ρ) t (PE enc fun _ => s) := LK.part h.ne (fun a e => h.eq a e ρ) hA
theorem PO.guard {m : M β} {c : Bool} {a : α} {enc : α → β} (h : c = true → ∀ ρ, m ρ = .ok (enc a) ρ) : PO m (TR.guard c a) enc := by
  refine ⟨fun c' fs e => ?_, fun b e ρ => ?_⟩
  · unfold TR.guard at e; split at e <;> cases e
  · unfold TR.guard at e
    split at e
    · rename_i hc; cases e; exact h hc ρ
    · cases e
theorem PO.opt {m : M β} {o : Option α} {enc : α → β} (h : ∀ a, o = some a → ∀ ρ, m ρ = .ok (enc a) ρ) : PO m (TR.opt o) enc := by
  cases o with
  | none => exact ⟨fun c' fs e => (nomatch e), fun b e ρ => (nomatch e)⟩
  | some a => exact ⟨fun c' fs e => (nomatch e), fun b e ρ => by cases e; exact h a rfl ρ⟩
/-! the typed result is an option of which the some is wanted -/
theorem PO.unwrap {m : M DO} {o : Option α} {e : α → D} {w : Own} (h : ∀ ρ, m ρ = .ok (eOpt e o, w) ρ) : PO m (TR.opt o) fun a => (e a, w) := PO.opt fun a ea ρ => by rw [h, ea]; rfl
variable {ρ : Env} {o o' : Own} {e : α → D}
/-! ints -/
def mulT (i j : Int) : TR Int := TR.guard (mulC i j) (i * j)
theorem po_mul (i j : Int) : PO (gMul (.int i, o) (.int j, o')) (mulT i j) fun k => (.int k, .no) := PO.guard fun h ρ => by unfold gMul gFlat2 gI2; simp [h]
theorem mulT_l {i j : Int} (h : -(2 ^ 64) < i ∧ i < 2 ^ 64) : mulT i j = .ok (i * j) := TR.guard_of (decide_eq_true (.inl (.inl h))) _
theorem mulT_r {i j : Int} (h : -(2 ^ 64) < j ∧ j < 2 ^ 64) : mulT i j = .ok (i * j) := TR.guard_of (decide_eq_true (.inl (.inr h))) _
def modT (i j : Int) : TR Int := TR.guard (decide (0 < j)) (i % j)
theorem po_mod (i j : Int) : PO (gMod (.int i, o) (.int j, o')) (modT i j) fun k => (.int k, .no) := PO.guard fun h ρ => by unfold gMod gFlat2 gI2; simp [h]
theorem modT_ok {i j : Int} (h : 0 < j) : modT i j = .ok (i % j) := TR.guard_of (decide_eq_true h) _
def divT (i j : Int) : TR Int := TR.guard (divC i j) (i / j)
theorem po_div (i j : Int) : PO (gDiv (.int i, o) (.int j, o')) (divT i j) fun k => (.int k, .no) := PO.guard fun h ρ => by unfold gDiv gFlat2 gI2; simp [h]
theorem divT_ok {i j : Int} (h : 0 < j) (h' : j.natAbs.log2 < 9000) : divT i j = .ok (i / j) := TR.guard_of (decide_eq_true ⟨h, h'⟩) _
def powT (i j : Int) : TR Int := TR.guard (powC i j) (i ^ j.toNat)
theorem po_pow (i j : Int) : PO (gPow (.int i, o) (.int j, o')) (powT i j) fun k => (.int k, .no) := PO.guard fun h ρ => by unfold gPow gFlat2 gI2; simp [h]
/-! texts and sequences put together -/
def addS (a b : Str) : TR Str := TR.guard (decide (a.length + b.length ≤ sizeLine)) (a ++ b)
theorem po_addS (a b : Str) : PO (gAdd (.str a, o) (.str b, o')) (addS a b) fun k => (.str k, .no) := PO.guard fun h ρ => by unfold gAdd; simp [of_decide_eq_true h]
theorem po_addFS (a b : Str) : PO (gAddF (.str a, o) (.str b, o')) (addS a b) fun k => (.str k, .no) := PO.guard fun h ρ => by unfold gAddF gFlat2; simp [of_decide_eq_true h]
theorem addS_ok {a b : Str} (h : a.length + b.length ≤ sizeLine) : addS a b = .ok (a ++ b) := TR.guard_of (decide_eq_true h) _
def addT (a b : List α) : TR (List α) := TR.guard (decide (a.length + b.length ≤ sizeLine)) (a ++ b)
theorem po_addT (a b : List α) : PO (gAdd (eTup e a, o) (eTup e b, o')) (addT a b) fun k => (eTup e k, .no) := PO.guard fun h ρ => by unfold gAdd; simp [of_decide_eq_true h]
theorem po_addL (a b : List α) (h1 : o.fl = true := by rfl) (h2 : o'.fl = true := by rfl) : PO (gAdd (eLst e a, o) (eLst e b, o')) (addT a b) fun k => (eLst e k, .lst .no) := PO.guard fun h ρ => by unfold gAdd; simp [of_decide_eq_true h, h1, h2]
theorem addT_ok {a b : List α} (h : a.length + b.length ≤ sizeLine) : addT a b = .ok (a ++ b) := TR.guard_of (decide_eq_true h) _
/-! equality -/
structure EqE [DecidableEq α] (e : α → D) (ok : α → Bool) (n : Nat) : Prop where
  ex : ∃ p : α → PyData, (∀ x, toP (e x) = some (p x)) ∧ (∀ x y, PyData.eqv (p x) (p y) = decide (x = y)) ∧ (∀ x, PyData.canLay0 (p x) = ok x) ∧ (∀ x, PyData.depth (p x) ≤ n)
abbrev okT : α → Bool := fun _ => true
abbrev okS (x : Str) : Bool := PyData.canLay0 (.str x)
abbrev okL (f : α → Bool) (xs : List α) : Bool := xs.all f
abbrev okP (f : α → Bool) (g : β → Bool) (p : α × β) : Bool := f p.1 && g p.2
theorem eqe_int : EqE D.int okT 0 := ⟨.int, fun _ => rfl, fun x y => by unfold PyData.eqv; by_cases h : x = y <;> simp [h], fun _ => rfl, fun _ => Nat.le_refl _⟩
theorem eqe_bool : EqE D.bl okT 0 := ⟨.bool, fun _ => rfl, fun x y => by unfold PyData.eqv; cases x <;> cases y <;> rfl, fun _ => rfl, fun _ => Nat.le_refl _⟩
theorem eqe_str : EqE D.str okS 0 := ⟨.str, fun _ => rfl, fun x y => by unfold PyData.eqv; by_cases h : x = y <;> simp [h], fun _ => rfl, fun _ => Nat.le_refl _⟩
theorem eqe_rows [DecidableEq α] {e : α → D} {ok : α → Bool} {n : Nat} {p : α → PyData} (h1 : ∀ x, toP (e x) = some (p x)) (h2 : ∀ x y, PyData.eqv (p x) (p y) = decide (x = y)) (h3 : ∀ x, PyData.canLay0 (p x) = ok x) (h4 : ∀ x, PyData.depth (p x) ≤ n) :
    (∀ xs : List α, toPs (xs.map e) = some (xs.map p)) ∧ (∀ xs ys : List α, PyData.eqvAll (xs.map p) (ys.map p) = decide (xs = ys)) ∧ (∀ xs : List α, PyData.canLayAll0 (xs.map p) = xs.all ok) ∧ (∀ xs : List α, PyData.depthAll (xs.map p) ≤ n) := by
  refine ⟨?_, ?_, ?_, ?_⟩
  · intro xs
    induction xs with
    | nil => rfl
    | cons x xs ih => simp [toPs, h1, ih]
  · intro xs
    induction xs with
    | nil => intro ys; cases ys <;> simp [PyData.eqvAll]
    | cons x xs ih =>
      intro ys
      cases ys with
      | nil => simp [PyData.eqvAll]
      | cons y ys =>
        simp only [List.map_cons, PyData.eqvAll, h2, ih ys]
        by_cases a : x = y <;> by_cases b : xs = ys <;> simp [a, b]
  · intro xs
    induction xs with
    | nil => rfl
    | cons x xs ih => simp [PyData.canLayAll0, h3, ih]
  · intro xs
    induction xs with
    | nil => exact Nat.zero_le _
    | cons x xs ih => simp only [List.map_cons, PyData.depthAll]; have := h4 x; omega
theorem eqe_tup [DecidableEq α] {e : α → D} {ok : α → Bool} {n : Nat} (h : EqE e ok n) : EqE (eTup e) (okL ok) (n + 1) := by
  obtain ⟨p, h1, h2, h3, h4⟩ := h
  obtain ⟨q1, q2, q3, q4⟩ := eqe_rows h1 h2 h3 h4
  exact ⟨fun xs => .tuple (xs.map p), fun xs => by simp [toP, q1], fun xs ys => by rw [PyData.eqv, q2], fun xs => by rw [PyData.canLay0, q3], fun xs => by rw [PyData.depth]; have := q4 xs; omega⟩
theorem eqe_lst [DecidableEq α] {e : α → D} {ok : α → Bool} {n : Nat} (h : EqE e ok n) : EqE (eLst e) (okL ok) (n + 1) := by
  obtain ⟨p, h1, h2, h3, h4⟩ := h
  obtain ⟨q1, q2, q3, q4⟩ := eqe_rows h1 h2 h3 h4
  exact ⟨fun xs => .list (xs.map p), fun xs => by simp [toP, q1], fun xs ys => by rw [PyData.eqv, q2], fun xs => by rw [PyData.canLay0, q3], fun xs => by rw [PyData.depth]; have := q4 xs; omega⟩
theorem eqe_p2 [DecidableEq α] [DecidableEq β] {e : α → D} {f : β → D} {ok : α → Bool} {ok' : β → Bool} {n m : Nat} (h : EqE e ok n) (h' : EqE f ok' m) : EqE (eP2 e f) (okP ok ok') (max n m + 1) := by
  obtain ⟨p, h1, h2, h3, h4⟩ := h
  obtain ⟨p', h1', h2', h3', h4'⟩ := h'
  refine ⟨fun x => .tuple [p x.1, p' x.2], fun x => by simp [toP, toPs, h1, h1'], fun x y => ?_, fun x => ?_, fun x => ?_⟩
  · simp only [PyData.eqv, PyData.eqvAll, h2, h2']
    obtain ⟨a, b⟩ := x; obtain ⟨c, d⟩ := y
    by_cases q : a = c <;> by_cases r : b = d <;> simp [q, r]
  · simp [PyData.canLay0, PyData.canLayAll0, h3, h3']
  · simp only [PyData.depth, PyData.depthAll]; have := h4 x.1; have := h4' x.2; omega
def eqT [DecidableEq α] (ok : α → Bool) (x y : α) : TR Bool := TR.guard (ok x && ok y) (decide (x = y))
theorem eqT_ok [DecidableEq α] {ok : α → Bool} {x y : α} (h : ok x = true) (h' : ok y = true) : eqT ok x y = .ok (decide (x = y)) := TR.guard_of (by rw [h, h']; rfl) _
theorem dEq_of [DecidableEq α] {ok : α → Bool} {n : Nat} (h : EqE e ok n) (hn : n ≤ 64) {x y : α} (hs : scalD (e x) (e y) = none) (h1 : (ok x && ok y) = true) : dEq (e x) (e y) = some (decide (x = y)) := by
  obtain ⟨p, q1, q2, q3, q4⟩ := h
  have s : ∀ x, ok x = true → SeqAt.shaped (p x) = true := fun x hx => by
    unfold SeqAt.shaped
    rw [q3, hx, Bool.true_and]
    exact decide_eq_true (Nat.le_trans (q4 x) hn)
  have hh := Bool.and_eq_true_iff.mp h1
  unfold dEq
  rw [hs]
  simp only [q1, s x hh.1, s y hh.2, and_self, if_true, q2]
theorem po_eq [DecidableEq α] {ok : α → Bool} {n : Nat} (h : EqE e ok n) (x y : α) (hn : n ≤ 64 := by decide) (hs : scalD (e x) (e y) = none := by rfl) : PO (gEq (e x, o) (e y, o')) (eqT ok x y) fun k => (.bl k, .no) := PO.guard fun h1 ρ => by
  unfold gEq gFlat2
  dsimp only
  rw [dEq_of h hn hs h1]; rfl
theorem po_ne [DecidableEq α] {ok : α → Bool} {n : Nat} (h : EqE e ok n) (x y : α) (hn : n ≤ 64 := by decide) (hs : scalD (e x) (e y) = none := by rfl) : PO (gNe (e x, o) (e y, o')) ((eqT ok x y).bind fun b => .ok (!b)) fun k => (.bl k, .no) := by
  unfold eqT TR.guard
  split
  · rename_i h1
    refine ⟨fun c fs e => (nomatch e), fun b e ρ => ?_⟩
    cases e
    unfold gNe gFlat2
    dsimp only
    rw [dEq_of h hn hs h1]; rfl
  · exact ⟨fun c fs e => (nomatch e), fun b e ρ => (nomatch e)⟩
/-- .. with nothing to be afraid of -/
theorem pu_eq [DecidableEq α] {n : Nat} (h : EqE e okT n) (x y : α) (hn : n ≤ 64 := by decide) (hs : scalD (e x) (e y) = none := by rfl) : gEq (e x, o) (e y, o') ρ = .ok (.bl (decide (x = y)), .no) ρ := by
  unfold gEq gFlat2
  dsimp only
  rw [dEq_of h hn hs rfl]; rfl
theorem pu_ne [DecidableEq α] {n : Nat} (h : EqE e okT n) (x y : α) (hn : n ≤ 64 := by decide) (hs : scalD (e x) (e y) = none := by rfl) : gNe (e x, o) (e y, o') ρ = .ok (.bl (!decide (x = y)), .no) ρ := by
  unfold gNe gFlat2
  dsimp only
  rw [dEq_of h hn hs rfl]; rfl
theorem eqe_T [DecidableEq α] {e : α → D} {ok : α → Bool} {n : Nat} (h : EqE e ok n) (hk : ∀ x, ok x = true) : EqE e okT n := by
  obtain ⟨p, h1, h2, h3, h4⟩ := h
  exact ⟨p, h1, h2, fun x => by rw [h3, hk], h4⟩
theorem okL_all {f : α → Bool} (h : ∀ x, f x = true) (xs : List α) : okL f xs = true := List.all_eq_true.mpr fun x _ => h x
/-! is -/
theorem is_opt (h : ∀ a, e a ≠ .non ∧ e a ≠ .hole) (x : Option α) : gIsN (eOpt e x, o) (.non, o') ρ = .ok (.bl x.isNone, .no) ρ := by
  cases x with
  | none => rfl
  | some a =>
    obtain ⟨h1, h2⟩ := h a
    unfold gIsN gFlat2
    simp only [eOpt_some]
    cases e' : e a <;> simp_all
theorem isNot_opt (h : ∀ a, e a ≠ .non ∧ e a ≠ .hole) (x : Option α) : gIsNot (eOpt e x, o) (.non, o') ρ = .ok (.bl x.isSome, .no) ρ := by
  cases x with
  | none => rfl
  | some a =>
    obtain ⟨h1, h2⟩ := h a
    unfold gIsNot gFlat2
    simp only [eOpt_some]
    cases e' : e a <;> simp_all
/-! in -/
theorem in_strs (neg : Bool) (x : Str) (ys : List Str) : gInD neg (.str x, o) (eLst D.str ys, o') ρ = .ok (.bl (if neg = true then !(ys.contains x) else ys.contains x), .no) ρ := by
  have h1 : (ys.map D.str).all flatD = true := by simp [flatD]
  have h2 : inFD (.str x) (ys.map D.str) = ys.contains x := by
    unfold inFD
    rw [List.any_map]
    induction ys with
    | nil => rfl
    | cons y ys ih => simp only [List.any_cons, List.contains_cons, Function.comp] at ih ⊢; rw [ih (by simp [flatD])]; congr 1; simp only [eqFD]; rw [Bool.eq_iff_iff]; simp only [beq_iff_eq]; exact eq_comm
  unfold gInD
  cases neg with
  | true => simp [isDict, gNotIn, gFlat2, dIn, h1, h2, flatD]
  | false => simp [isDict, gIn, gFlat2, dIn, h1, h2, flatD]
/-! indexing -/
theorem atI_map (f : α → β) (xs : List α) (i : Int) : atI (xs.map f) i = (atI xs i).map f := by
  unfold atI
  rw [List.length_map]
  cases ixN xs.length i with
  | none => rfl
  | some j => simp
def idx (xs : List α) (i : Int) : TR α := TR.opt (atI xs i)
theorem idx_ok {xs : List α} {i : Nat} {x : α} (h : xs[i]? = some x) : idx xs (i : Int) = .ok x := by unfold idx; rw [atI_nat h]; rfl
theorem idx_lt {xs : List α} {i : Nat} (h : i < xs.length) : idx xs (i : Int) = .ok xs[i] := idx_ok (List.getElem?_eq_getElem h)
theorem po_ixT (xs : List α) (i : Int) : PO (gSub1 (eTup e xs, o) (.int i, o')) (idx xs i) fun a => (e a, .no) := PO.opt fun a h ρ => by
  unfold gSub1 gIx; simp [isDict, atI_map, h]
theorem po_ixL (xs : List α) (i : Int) (hf : o.fl = true := by rfl) : PO (gSub1 (eLst e xs, o) (.int i, o')) (idx xs i) fun a => (e a, .no) := PO.opt fun a h ρ => by
  unfold gSub1 gIx; simp [isDict, atI_map, h, hf]
theorem po_ixK (xs : List α) (i : Int) : PO (gSub1 (eLsk e xs, o) (.int i, o')) (idx xs i) fun a => (e a, .no) := PO.opt fun a h ρ => by
  unfold gSub1 gIx; simp [isDict, atI_map, h]
def one (c : Nat) : Str := ⟨#[c]⟩
def idxS (s : Str) (i : Int) : TR Str := if s.length ≤ sizeLine then TR.opt ((atI s.cps.toList i).map one) else .stuck
theorem po_ixS (s : Str) (i : Int) : PO (gSub1 (.str s, o) (.int i, o')) (idxS s i) fun a => (.str a, .no) := by
  unfold idxS
  split
  · rename_i hs
    refine PO.opt fun a h ρ => ?_
    cases h1 : atI s.cps.toList i with
    | none => rw [h1] at h; cases h
    | some c => rw [h1] at h; cases h; unfold gSub1 gIx; simp [isDict, h1, hs, one]
  · exact ⟨fun c fs e => (nomatch e), fun b e ρ => (nomatch e)⟩
theorem idxS_ok {s : Str} {i : Nat} {c : Nat} (hs : s.length ≤ sizeLine) (h : s.cps.toList[i]? = some c) : idxS s (i : Int) = .ok (one c) := by unfold idxS; rw [if_pos hs, atI_nat h]; rfl
/-! slices -/
theorem cutL_map (f : α → β) (xs : List α) (lo hi : Option Int) : cutL (xs.map f) lo hi = (cutL xs lo hi).map f := by
  unfold cutL; simp [List.map_drop, List.map_take]
theorem sl_T (xs : List α) (lo hi : Option Int) : gSl (eTup e xs, o) lo hi ρ = .ok (eTup e (cutL xs lo hi), .no) ρ := by unfold gSl; simp [cutL_map]
theorem sl_L (xs : List α) (lo hi : Option Int) (hf : o.fl = true := by rfl) : gSl (eLst e xs, o) lo hi ρ = .ok (eLst e (cutL xs lo hi), .lst .no) ρ := by unfold gSl; simp [cutL_map, hf]
theorem sl_K (xs : List α) (lo hi : Option Int) : gSl (eLsk e xs, o) lo hi ρ = .ok (eLst e (cutL xs lo hi), .lst .no) ρ := by unfold gSl; simp [cutL_map]
def slS (s : Str) (lo hi : Option Int) : TR Str := TR.guard (decide (s.length ≤ sizeLine)) (cutS s lo hi)
theorem po_slS (s : Str) (lo hi : Option Int) : PO (gSl (.str s, o) lo hi) (slS s lo hi) fun a => (.str a, .no) := PO.guard fun h ρ => by unfold gSl; simp [of_decide_eq_true h]
theorem slS_ok {s : Str} {lo hi : Option Int} (h : s.length ≤ sizeLine) : slS s lo hi = .ok (cutS s lo hi) := TR.guard_of (decide_eq_true h) _
/-! lengths -/
theorem len_T (xs : List α) : gLen [(eTup e xs, o)] ρ = .ok (.int xs.length, .no) ρ := by unfold gLen g1 gFlat1 dLen; simp
theorem len_L (xs : List α) : gLen [(eLst e xs, o)] ρ = .ok (.int xs.length, .no) ρ := by unfold gLen g1 gFlat1 dLen; simp
theorem len_K (xs : List α) : gLen [(eLsk e xs, o)] ρ = .ok (.int xs.length, .no) ρ := by unfold gLen g1 gFlat1 dLen; simp
def lenS (s : Str) : TR Int := TR.guard (decide (s.length ≤ sizeLine)) s.length
theorem po_lenS (s : Str) : PO (gLen [(.str s, o)]) (lenS s) fun k => (.int k, .no) := PO.guard fun h ρ => o_lenS s (of_decide_eq_true h)
theorem lenS_ok {s : Str} (h : s.length ≤ sizeLine) : lenS s = .ok (s.length : Int) := TR.guard_of (decide_eq_true h) _
/-! made anew -/
theorem tuple_L (xs : List α) (hf : o.fl = true := by rfl) : gTuple [(eLst e xs, o)] ρ = .ok (eTup e xs, .no) ρ := by unfold gTuple g1; simp [hf]
theorem tuple_T (xs : List α) : gTuple [(eTup e xs, o)] ρ = .ok (eTup e xs, .no) ρ := rfl
theorem tuple_K (xs : List α) : gTuple [(eLsk e xs, o)] ρ = .ok (eTup e xs, .no) ρ := rfl
theorem list_L (xs : List α) (hf : o.fl = true := by rfl) : gList [(eLst e xs, o)] ρ = .ok (eLst e xs, .lst .no) ρ := by unfold gList g1; simp [hf]
theorem list_T (xs : List α) : gList [(eTup e xs, o)] ρ = .ok (eLst e xs, .lst .no) ρ := rfl
theorem list_K (xs : List α) : gList [(eLsk e xs, o)] ρ = .ok (eLst e xs, .lst .no) ρ := rfl
def listS (s : Str) : TR (List Str) := TR.guard (decide (s.length ≤ sizeLine)) (signs s)
theorem po_listS (s : Str) : PO (gList [(.str s, o)]) (listS s) fun k => (eLst D.str k, .lst .no) := PO.guard fun h ρ => by unfold gList g1; simp [of_decide_eq_true h]
theorem po_tupleS (s : Str) : PO (gTuple [(.str s, o)]) (listS s) fun k => (eTup D.str k, .no) := PO.guard fun h ρ => by unfold gTuple g1; simp [of_decide_eq_true h]
theorem listS_ok {s : Str} (h : s.length ≤ sizeLine) : listS s = .ok (signs s) := TR.guard_of (decide_eq_true h) _
theorem intsD_map : ∀ ns : List Int, intsD (ns.map .int) = some ns
  | [] => rfl
  | n :: ns => by simp [intsD, intsD_map ns]
theorem strsD_map : ∀ ns : List Str, strsD (ns.map .str) = some ns
  | [] => rfl
  | n :: ns => by simp [strsD, strsD_map ns]
theorem sorted_I (xs : List Int) : gSorted [(eLst D.int xs, o)] ρ = .ok (eLst D.int (sortI xs), .lst .no) ρ := by unfold gSorted g1; simp [intsD_map]
def sortT (xs : List Str) : TR (List Str) := TR.guard (decide (xs.length < 64)) (sortS xs)
theorem po_sortS (xs : List Str) : PO (gSorted [(eLst D.str xs, o)]) (sortT xs) fun k => (eLst D.str k, .lst .no) := PO.guard fun h ρ => by
  unfold gSorted g1
  cases xs with
  | nil => show Rz.ok (D.lst ((sortI []).map D.int), Own.lst .no) ρ = Rz.ok (D.lst ((sortS []).map D.str), Own.lst .no) ρ; simp [sortI, sortS]
  | cons x xs =>
    have : intsD ((x :: xs).map D.str) = none := rfl
    have h := of_decide_eq_true h
    simp only [List.map_cons, List.length_cons] at this h ⊢
    rw [this, show strsD (D.str x :: xs.map D.str) = some (x :: xs) from strsD_map (x :: xs)]
    simp [h]
theorem sum_I (xs : List Int) : gSum [(eLst D.int xs, o)] ρ = .ok (.int xs.sum, .no) ρ := by unfold gSum g1; simp [intsD_map]
def maxT (xs : List Int) : TR Int := TR.guard (!decide (xs = [])) (maxI xs)
theorem po_maxL (xs : List Int) : PO (gMaxL [(eLst D.int xs, o)]) (maxT xs) fun k => (.int k, .no) := PO.guard fun h ρ => by
  unfold gMaxL g1; simp at h; simp [intsD_map, h]
def minT (xs : List Int) : TR Int := TR.guard (!decide (xs = [])) (minI xs)
theorem po_minL (xs : List Int) : PO (gMinL [(eLst D.int xs, o)]) (minT xs) fun k => (.int k, .no) := PO.guard fun h ρ => by
  unfold gMinL g1; simp at h; simp [intsD_map, h]
def joinT (a : Str) (ys : List Str) : TR Str := TR.guard (decide ((ys.map (·.length)).sum + ys.length * a.length ≤ 16777216)) (Txt.join a ys)
theorem po_joinL (a : Str) (ys : List Str) : PO (gJoin (.str a, o) [(eLst D.str ys, o')]) (joinT a ys) fun k => (.str k, .no) := PO.guard fun h ρ => by unfold gJoin; simp only [strsD_map]; rw [if_pos (of_decide_eq_true h)]
theorem po_joinU (a : Str) (ys : List Str) : PO (gJoin (.str a, o) [(eTup D.str ys, o')]) (joinT a ys) fun k => (.str k, .no) := PO.guard fun h ρ => by unfold gJoin; simp only [strsD_map]; rw [if_pos (of_decide_eq_true h)]
def indexT (a b : Str) : TR Int := TR.opt ((occ0 a b).map fun k => ((k : Nat) : Int))
theorem po_index (a b : Str) : PO (gSIdx (.str a, o) [(.str b, o')]) (indexT a b) fun k => (.int k, .no) := PO.opt fun k h ρ => by
  cases h1 : occ0 a b with
  | none => rw [h1] at h; cases h
  | some i => rw [h1] at h; cases h; unfold gSIdx gStr1; simp [h1]
/-! ranges -/
def rangeI (lo : Int) (n : Nat) : List Int := (List.range n).map fun i => lo + (i : Nat)
theorem rangeD_eq (lo : Int) (n : Nat) : rangeD lo n = (rangeI lo n).map .int := by unfold rangeD rangeI; rw [List.map_map]; rfl
def rng1 (j : Int) : TR (List Int) := TR.guard (rgOk j) (rangeI 0 j.toNat)
theorem rng1_ok {j : Int} (h : -(2 ^ 62) ≤ j ∧ j < 2 ^ 62) : rng1 j = .ok (rangeI 0 j.toNat) := TR.guard_of (rgOk_of h) _
theorem rng1_nat {n : Nat} (h : n < 2 ^ 62) : rng1 (n : Int) = .ok (rangeI 0 n) := by
  have := rng1_ok (j := (n : Int)) ⟨by omega, by omega⟩
  rwa [Int.toNat_natCast] at this
def rng2 (i j : Int) : TR (List Int) := TR.guard (rgOk i && rgOk j) (rangeI i (j - i).toNat)
theorem rng2_ok {i j : Int} (h : -(2 ^ 62) ≤ i ∧ i < 2 ^ 62) (h' : -(2 ^ 62) ≤ j ∧ j < 2 ^ 62) : rng2 i j = .ok (rangeI i (j - i).toNat) := TR.guard_of (by rw [rgOk_of h, rgOk_of h']; rfl) _
theorem range1_k (j : Int) : PO (fun ρ => if rgOk j = true then Rz.ok (rangeD 0 j.toNat) ρ else .stuck) (rng1 j) fun xs => xs.map D.int := PO.guard fun h ρ => by rw [if_pos h, rangeD_eq]
theorem range2_k (i j : Int) : PO (fun ρ => if rgOk i = true ∧ rgOk j = true then Rz.ok (rangeD i (j - i).toNat) ρ else .stuck) (rng2 i j) fun xs => xs.map D.int := PO.guard fun h ρ => by
  have := Bool.and_eq_true_iff.mp h
  rw [if_pos this, rangeD_eq]
theorem LK.range1 {E : EP} {s : Spc} {fs : M (List DO)} {j : Int} (hf : fs ρ = .ok [(.int j, o)] ρ) (hA : Ag s ρ) : LK E (mRange1 fs ρ) (rng1 j) (PE (fun xs => xs.map D.int) fun _ => s) := LK.pure hf (LK.po (range1_k j) hA)
theorem LK.range2 {E : EP} {s : Spc} {fs : M (List DO)} {i j : Int} (hf : fs ρ = .ok [(.int i, o), (.int j, o')] ρ) (hA : Ag s ρ) : LK E (mRange2 fs ρ) (rng2 i j) (PE (fun xs => xs.map D.int) fun _ => s) := LK.pure hf (LK.po (range2_k i j) hA)
def enumT (xs : List α) : List (Int × α) := (List.range xs.length).zipWith (fun i x => ((i : Nat), x)) xs
theorem enumD_eq (xs : List α) : enumD (xs.map e) = (enumT xs).map (eP2 D.int e) := by
  unfold enumD enumT
  rw [List.length_map, List.zipWith_map_right, List.map_zipWith]
theorem enum_L {fs : M (List DO)} {xs : List α} (hf : fs ρ = .ok [(eLst e xs, .no)] ρ) : mEnum fs ρ = .ok ((enumT xs).map (eP2 D.int e)) ρ := pb hf (by simp only [enumD_eq])
theorem enum_S {fs : M (List DO)} {x : Str} (hf : fs ρ = .ok [(.str x, .no)] ρ) : mEnum fs ρ = .ok ((enumT (signs x)).map (eP2 D.int D.str)) ρ := pb hf (by simp only [enumD_eq])
/-! dicts -/
def tval [DecidableEq κ] (kvs : List (κ × α)) (k : κ) : Option α := (kvs.find? fun kv => decide (kv.1 = k)).map (·.2)
def tput [DecidableEq κ] (kvs : List (κ × α)) (k : κ) (v : α) : List (κ × α) :=
  if (kvs.any fun kv => decide (kv.1 = k)) = true then kvs.map (fun kv => if kv.1 = k then (kv.1, v) else kv) else kvs ++ [(k, v)]
theorem dval_map [DecidableEq κ] {κ' : Type} [DecidableEq κ'] {f : κ → κ'} (hf : ∀ a b, f a = f b → a = b) (kvs : List (κ × α)) (k : κ) : dval (kvs.map fun p => (f p.1, e p.2)) (f k) = (tval kvs k).map e := by
  unfold dval tval
  induction kvs with
  | nil => rfl
  | cons p ps ih =>
    simp only [List.map_cons, List.find?_cons]
    by_cases h : p.1 = k
    · simp [h]
    · have : ¬ f p.1 = f k := fun q => h (hf _ _ q)
      simp only [h, this, decide_false]
      exact ih
theorem dput_map [DecidableEq κ] {κ' : Type} [DecidableEq κ'] {f : κ → κ'} (hf : ∀ a b, f a = f b → a = b) (kvs : List (κ × α)) (k : κ) (v : α) : dput (kvs.map fun p => (f p.1, e p.2)) (f k) (e v) = (tput kvs k v).map fun p => (f p.1, e p.2) := by
  unfold dput tput
  have h1 : ((kvs.map fun p => (f p.1, e p.2)).any fun kv => decide (kv.1 = f k)) = kvs.any fun kv => decide (kv.1 = k) := by
    rw [List.any_map]
    congr 1
    funext p
    simp only [Function.comp]
    by_cases h : p.1 = k
    · simp [h]
    · have : ¬ f p.1 = f k := fun q => h (hf _ _ q)
      simp [h, this]
  rw [h1]
  split
  · rw [List.map_map, List.map_map]
    apply List.map_congr_left
    intro p _
    simp only [Function.comp]
    by_cases h : p.1 = k
    · simp [h]
    · have : ¬ f p.1 = f k := fun q => h (hf _ _ q)
      simp [h, this]
  · simp
theorem kI_inj (a b : Int) (h : kI a = kI b) : a = b := by cases h; rfl
theorem kS_inj (a b : Str) (h : kS a = kS b) : a = b := by cases h; rfl
theorem kII_inj (a b : Int × Int) (h : kII a = kII b) : a = b := by
  obtain ⟨x, y⟩ := a; obtain ⟨u, v⟩ := b
  simp only [kII, List.cons.injEq, Sum.inl.injEq, and_true] at h
  rw [h.1, h.2]
theorem in_dicS (neg : Bool) (k : Str) (kvs : List (Str × α)) : gInD neg (.str k, o) (eDic kS e kvs, o') ρ = .ok (.bl (if neg = true then !(tval kvs k).isSome else (tval kvs k).isSome), .no) ρ := by
  unfold gInD gDIn dGet
  simp only [isDict, if_true, keyOf, Option.map_some]
  rw [dval_map kS_inj]
  simp
theorem in_dit (neg : Bool) (k : Int × Int) (kvs : List ((Int × Int) × α)) : gInD neg (eP2 D.int D.int k, o) (eDit kII e kvs, o') ρ = .ok (.bl (if neg = true then !(tval kvs k).isSome else (tval kvs k).isSome), .no) ρ := by
  unfold gInD gDIn dGet
  simp only [isDict, if_true, tkeyOf, keysOf, keyOf, Option.map_some]
  rw [show ([Sum.inl k.1, Sum.inl k.2] : List Key) = kII k from rfl, dval_map kII_inj]
  simp
def dget [DecidableEq κ] (kvs : List (κ × α)) (k : κ) : TR α := TR.opt (tval kvs k)
theorem po_dicS (kvs : List (Str × α)) (k : Str) (hf : o.fl = true := by rfl) : PO (gSub1 (eDic kS e kvs, o) (.str k, o')) (dget kvs k) fun a => (e a, .no) := PO.opt fun a h ρ => by
  unfold gSub1 dGet
  simp only [isDict, if_true, keyOf, Option.map_some]
  rw [dval_map kS_inj, h]
  simp [hf]
theorem po_dit (kvs : List ((Int × Int) × α)) (k : Int × Int) (hf : o.fl = true := by rfl) : PO (gSub1 (eDit kII e kvs, o) (eP2 D.int D.int k, o')) (dget kvs k) fun a => (e a, .no) := PO.opt fun a h ρ => by
  unfold gSub1 dGet
  simp only [isDict, if_true, tkeyOf, keysOf, keyOf, Option.map_some]
  rw [show ([Sum.inl k.1, Sum.inl k.2] : List Key) = kII k from rfl, dval_map kII_inj, h]
  simp [hf]
def dputT [DecidableEq κ] (kvs : List (κ × α)) (k : κ) (v : α) : TR (List (κ × α)) := TR.guard (decide (kvs.length < sizeLine)) (tput kvs k v)
theorem dputT_ok [DecidableEq κ] {kvs : List (κ × α)} {k : κ} {v : α} (h : kvs.length < sizeLine) : dputT kvs k v = .ok (tput kvs k v) := TR.guard_of (decide_eq_true h) _
theorem dputT_ne [DecidableEq κ] (kvs : List (κ × α)) (k : κ) (v : α) : ∀ c fs, dputT kvs k v ≠ .err c fs := fun c fs e => by unfold dputT TR.guard at e; split at e <;> cases e
theorem dputT_put [DecidableEq κ] {kvs : List (κ × α)} {k : κ} {v : α} {r} (h : dputT kvs k v = .ok r) : kvs.length < sizeLine ∧ r = tput kvs k v := by
  unfold dputT TR.guard at h
  split at h
  · rename_i h1; cases h; exact ⟨of_decide_eq_true h1, rfl⟩
  · cases h
theorem put_dicS (kvs : List (Str × α)) (k : Str) (v : α) : ∀ r, dputT kvs k v = .ok r → putD (.str k) (e v, .no) (eDic kS e kvs, .lst .no) = some (eDic kS e r) := fun r h => by
  obtain ⟨h1, rfl⟩ := dputT_put h
  unfold putD
  simp only [keyOf]
  rw [if_pos (by simpa using h1), dput_map kS_inj]
theorem put_dit (kvs : List ((Int × Int) × α)) (k : Int × Int) (v : α) : ∀ r, dputT kvs k v = .ok r → putD (eP2 D.int D.int k) (e v, .no) (eDit kII e kvs, .lst .no) = some (eDit kII e r) := fun r h => by
  obtain ⟨h1, rfl⟩ := dputT_put h
  unfold putD
  simp only [tkeyOf, keysOf, keyOf]
  rw [if_pos (by simpa using h1), show ([Sum.inl k.1, Sum.inl k.2] : List Key) = kII k from rfl, dput_map kII_inj]
/-! what may be handed back -/
theorem idt_tup (h : ∀ a, indD (e a) .no = true) (xs : List α) (o : Own) : indD (eTup e xs) o = true := by
  rw [indD]; exact indDs_of fun d m => by obtain ⟨a, _, rfl⟩ := List.mem_map.mp m; exact h a
theorem idt_lst (h : ∀ a, indD (e a) .no = true) (xs : List α) : indD (eLst e xs) (.lst .no) = true := by
  rw [indD]; exact indDs_of fun d m => by obtain ⟨a, _, rfl⟩ := List.mem_map.mp m; exact h a
theorem idt_p2 {f : β → D} (h : ∀ a, indD (e a) .no = true) (h' : ∀ a, indD (f a) .no = true) (p : α × β) (o : Own) : indD (eP2 e f p) o = true := by
  rw [indD]; exact indDs_of fun d m => by simp at m; rcases m with rfl | rfl <;> first | exact h _ | exact h' _
theorem idt_opt (h : ∀ a, indD (e a) .no = true) (x : Option α) : indD (eOpt e x) .no = true := by
  cases x with
  | none => rfl
  | some a => exact h a
end
end DL
/-! Typed layer: comprehensions. -/
namespace DL
open PySem PySem.Spec L2
section
variable {α β γ δ κ S : Type}
theorem wipeE_mono : ∀ {vs : List Nat} {s : Spc} {ρ : Env}, Ag s ρ → Ag (wipeE s vs) (wipeE ρ vs)
  | [], s, ρ, h => h
  | v :: vs, s, ρ, h => (wipeE_mono (vs := vs) h).unset v none
theorem restE_get {s0 s1 : Spc} {v : Nat} (h0 : ∀ d, s0[v]? ≠ some (some (d, Own.no))) : ∀ {vs : List Nat}, (restE s0 s1 vs)[v]? = s1[v]?
  | [] => rfl
  | u :: vs => by
    have ih := restE_get (s1 := s1) h0 (vs := vs)
    unfold restE
    split
    · rename_i d e
      have hn : u ≠ v := fun h => h0 d (h ▸ e)
      rw [List.getElem?_set_ne hn]
      exact ih
    · exact ih
theorem Ag.any {s : Spc} {ρ : Env} (h : Ag s ρ) {v : Nat} (hv : s[v]? = some none ∨ s[v]? = none) (y : Option DO) : Ag s (ρ.set v y) := by
  induction h generalizing v with
  | nil => exact .nil
  | skip z h ih => cases v with
    | zero => exact .skip _ h
    | succ v => exact .skip _ (ih (by simpa using hv))
  | keep z h ih => cases v with
    | zero => simp at hv
    | succ v => exact .keep _ (ih (by simpa using hv))
theorem restE_mono {s0 s1 : Spc} {ρ0 ρ1 : Env} (h0 : Ag s0 ρ0) (h1 : Ag s1 ρ1) : ∀ {vs : List Nat}, (∀ v ∈ vs, s1[v]? = some none ∨ s1[v]? = none) → Ag (restE s0 s1 vs) (restE ρ0 ρ1 vs)
  | [], _ => h1
  | v :: vs, hv => by
    have ih := restE_mono h0 h1 (vs := vs) fun u m => hv u (List.mem_cons_of_mem _ m)
    by_cases hk : ∃ d, s0[v]? = some (some (d, Own.no))
    · obtain ⟨d, e⟩ := hk
      unfold restE
      rw [e, h0.get e]
      exact ih.set v _
    · have hk' : ∀ d, s0[v]? ≠ some (some (d, Own.no)) := fun d e => hk ⟨d, e⟩
      have e1 : restE s0 s1 (v :: vs) = restE s0 s1 vs := by
        rw [restE]
        split
        · rename_i d e; exact absurd e (hk' d)
        · rfl
      rw [e1]
      have hn := hv v (List.mem_cons_self ..)
      rw [← restE_get (s1 := s1) hk' (vs := vs)] at hn
      rw [restE]
      split
      · exact ih.any hn _
      · exact ih
def lcS (test : α → S → TR Bool) (f : α → S → TR (β × S)) : List α → S → TR (List β × S)
  | [], a => .ok ([], a)
  | x :: xs, a => match test x a with
    | .ok false => lcS test f xs a
    | .ok true => (match f x a with
      | .ok p => (match lcS test f xs p.2 with
        | .ok q => .ok (p.1 :: q.1, q.2)
        | _ => .stuck)
      | _ => .stuck)
    | _ => .stuck
def lcT (test : α → S → TR Bool) (f : α → S → TR (β × S)) (xs : List α) (a : S) : TR (List β × S) := if xs.length < sizeLine then lcS test f xs a else .stuck
def lc1S (test : α → TR Bool) (f : α → TR β) : List α → TR (List β)
  | [] => .ok []
  | x :: xs => match test x with
    | .ok false => lc1S test f xs
    | .ok true => (match f x with
      | .ok p => (match lc1S test f xs with
        | .ok q => .ok (p :: q)
        | _ => .stuck)
      | _ => .stuck)
    | _ => .stuck
def lc1 (test : α → TR Bool) (f : α → TR β) (xs : List α) : TR (List β) := if xs.length < sizeLine then lc1S test f xs else .stuck
theorem lc1S_pure {test : α → TR Bool} {f : α → TR β} {c : α → Bool} {g : α → β} : ∀ {xs : List α}, (∀ x ∈ xs, test x = .ok (c x)) → (∀ x ∈ xs, c x = true → f x = .ok (g x)) → lc1S test f xs = .ok ((xs.filter c).map g)
  | [], _, _ => rfl
  | x :: xs, h1, h2 => by
    have ih := lc1S_pure (xs := xs) (fun y m => h1 y (List.mem_cons_of_mem _ m)) (fun y m => h2 y (List.mem_cons_of_mem _ m))
    rw [lc1S, h1 x (List.mem_cons_self ..)]
    cases hc : c x with
    | false => simp only [ih, List.filter_cons, hc]; rfl
    | true => simp only [h2 x (List.mem_cons_self ..) hc, ih, List.filter_cons, hc]; rfl
theorem lc1_pure {test : α → TR Bool} {f : α → TR β} {c : α → Bool} {g : α → β} {xs : List α} (hl : xs.length < sizeLine) (h1 : ∀ x ∈ xs, test x = .ok (c x)) (h2 : ∀ x ∈ xs, c x = true → f x = .ok (g x)) : lc1 test f xs = .ok ((xs.filter c).map g) := by
  unfold lc1; rw [if_pos hl, lc1S_pure h1 h2]
theorem lc1_map {test : α → TR Bool} {f : α → TR β} {g : α → β} {xs : List α} (hl : xs.length < sizeLine) (h1 : ∀ x ∈ xs, test x = .ok true) (h2 : ∀ x ∈ xs, f x = .ok (g x)) : lc1 test f xs = .ok (xs.map g) := by
  have := lc1_pure (c := fun _ => true) hl h1 (fun x m _ => h2 x m)
  rwa [List.filter_eq_self.mpr (fun _ _ => rfl)] at this
/-- what holds of each item -/
theorem lc1_all {test : α → TR Bool} {f : α → TR β} {P : β → Prop} {xs : List α} (hl : xs.length < sizeLine) (h1 : ∀ x ∈ xs, ∃ b, test x = .ok b ∧ (b = true → (f x).Sat P)) : (lc1 test f xs).Sat fun ys => ys.length ≤ xs.length ∧ ∀ y ∈ ys, P y := by
  unfold lc1
  rw [if_pos hl]
  clear hl
  induction xs with
  | nil => exact ⟨[], rfl, Nat.le_refl _, fun y m => by cases m⟩
  | cons x xs ih =>
    obtain ⟨ys, e, h2, h3⟩ := ih fun y m => h1 y (List.mem_cons_of_mem _ m)
    obtain ⟨b, hb, hs⟩ := h1 x (List.mem_cons_self ..)
    rw [lc1S, hb]
    cases b with
    | false => exact ⟨ys, e, by simp; omega, h3⟩
    | true =>
      obtain ⟨y, ey, hy⟩ := hs rfl
      dsimp only
      rw [ey]
      dsimp only
      rw [e]
      exact ⟨y :: ys, rfl, by simp; omega, fun z m => by rcases List.mem_cons.mp m with rfl | m <;> first | exact hy | exact h3 z m⟩
/-- .. while a state goes along -/
theorem lcT_all {test : α → S → TR Bool} {f : α → S → TR (β × S)} {I : S → Prop} {P : β → Prop} {xs : List α} {a : S} (hl : xs.length < sizeLine) (ha : I a) (h1 : ∀ x ∈ xs, ∀ a, I a → ∃ b, test x a = .ok b ∧ (b = true → (f x a).Sat fun p => P p.1 ∧ I p.2)) : (lcT test f xs a).Sat fun q => q.1.length ≤ xs.length ∧ (∀ y ∈ q.1, P y) ∧ I q.2 := by
  unfold lcT
  rw [if_pos hl]
  clear hl
  induction xs generalizing a with
  | nil => exact ⟨([], a), rfl, Nat.le_refl _, (fun y m => by cases m), ha⟩
  | cons x xs ih =>
    obtain ⟨b, hb, hs⟩ := h1 x (List.mem_cons_self ..) a ha
    rw [lcS, hb]
    cases b with
    | false =>
      obtain ⟨q, e, h2, h3, h4⟩ := ih ha fun y m => h1 y (List.mem_cons_of_mem _ m)
      exact ⟨q, e, by simp; omega, h3, h4⟩
    | true =>
      obtain ⟨p, ep, hp, hI⟩ := hs rfl
      obtain ⟨q, e, h2, h3, h4⟩ := ih hI fun y m => h1 y (List.mem_cons_of_mem _ m)
      dsimp only
      rw [ep]
      dsimp only
      rw [e]
      exact ⟨(p.1 :: q.1, q.2), rfl, by simp; omega, (fun z m => by rcases List.mem_cons.mp m with rfl | m <;> first | exact hp | exact h3 z m), h4⟩
/-- .. with no test: as many -/
theorem lcT_len {f : α → S → TR (β × S)} {I : S → Prop} {P : β → Prop} {xs : List α} {a : S} (hl : xs.length < sizeLine) (ha : I a) (h1 : ∀ x ∈ xs, ∀ a, I a → (f x a).Sat fun p => P p.1 ∧ I p.2) : (lcT (fun _ _ => .ok true) f xs a).Sat fun q => q.1.length = xs.length ∧ (∀ y ∈ q.1, P y) ∧ I q.2 := by
  unfold lcT
  rw [if_pos hl]
  clear hl
  induction xs generalizing a with
  | nil => exact ⟨([], a), rfl, rfl, (fun y m => by cases m), ha⟩
  | cons x xs ih =>
    obtain ⟨p, ep, hp, hI⟩ := h1 x (List.mem_cons_self ..) a ha
    obtain ⟨q, e, h2, h3, h4⟩ := ih hI fun y m => h1 y (List.mem_cons_of_mem _ m)
    rw [lcS]
    dsimp only
    rw [ep]
    dsimp only
    rw [e]
    exact ⟨(p.1 :: q.1, q.2), rfl, by simp; omega, (fun z m => by rcases List.mem_cons.mp m with rfl | m <;> first | exact hp | exact h3 z m), h4⟩
variable {E : EP} {ρ : Env} {vs : List Nat} {fi : M (List D)} {tg : Tgt} {t : M Bool} {f fk : M DO} {e : β → D} {encx : α → D}
theorem lcGo_lk {sh : S → Spc} {sb : α → S → Spc} {test : α → S → TR Bool} {elt : α → S → TR (β × S)} (htg : ∀ x a ρ, Ag (sh a) ρ → ∃ ρ1, tg (encx x) ρ = some ρ1 ∧ Ag (sb x a) ρ1)
    (ht : ∀ x a ρ, Ag (sb x a) ρ → LK E0 (t ρ) (test x a) (PE id fun _ => sb x a)) (hf : ∀ x a ρ, Ag (sb x a) ρ → LK E0 (f ρ) (elt x a) (PE (fun p => (e p.1, .no)) fun p => sb x p.2)) (hw : ∀ x a, wipeE (sb x a) vs = sh a) :
    ∀ (xs : List α) (a : S) (ρ : Env) (r : List β × S), Ag (sh a) ρ → lcS test elt xs a = .ok r → ∃ ρ', lcGo vs tg t f (xs.map encx) ρ = some (r.1.map e, ρ') ∧ Ag (sh r.2) ρ'
  | [], a, ρ, r, hA, h => by cases h; exact ⟨ρ, rfl, hA⟩
  | x :: xs, a, ρ, r, hA, h => by
    obtain ⟨ρ1, e1, h1⟩ := htg x a ρ hA
    have h2 := ht x a ρ1 h1
    rw [List.map_cons, lcGo, e1]
    dsimp only
    rw [lcS] at h
    cases et : test x a with
    | stuck => rw [et] at h; cases h
    | err c fs => rw [et] at h; cases h
    | ok b =>
      rw [et] at h h2
      obtain ⟨b', ρ2, e2, eb, h3⟩ := h2
      subst eb
      rw [e2]
      cases b' with
      | false =>
        have h4 := wipeE_mono (vs := vs) h3
        rw [hw] at h4
        exact lcGo_lk htg ht hf hw xs a _ r h4 h
      | true =>
        dsimp only [id] at h ⊢
        have h4 := hf x a ρ2 h3
        cases ef : elt x a with
        | stuck => rw [ef] at h; cases h
        | err c fs => rw [ef] at h; cases h
        | ok p =>
          rw [ef] at h h4
          obtain ⟨b2, ρ3, e3, eb, h5⟩ := h4
          subst eb
          rw [e3]
          dsimp only at h ⊢
          have h6 := wipeE_mono (vs := vs) h5
          rw [hw] at h6
          cases eq : lcS test elt xs p.2 with
          | stuck => rw [eq] at h; cases h
          | err c fs => rw [eq] at h; cases h
          | ok q =>
            rw [eq] at h
            cases h
            obtain ⟨ρ', e5, h7⟩ := lcGo_lk htg ht hf hw xs p.2 _ q h6 eq
            rw [e5]
            exact ⟨ρ', rfl, h7⟩
theorem LK.lcs {sh : S → Spc} {sb : α → S → Spc} {sf : S → Spc} {s : Spc} {test : α → S → TR Bool} {elt : α → S → TR (β × S)} {xs : List α} {a : S} (hi : fi ρ = .ok (xs.map encx) ρ) (hA : Ag s ρ) (h0 : wipeE s vs = sh a) (htg : ∀ x a ρ, Ag (sh a) ρ → ∃ ρ1, tg (encx x) ρ = some ρ1 ∧ Ag (sb x a) ρ1)
    (ht : ∀ x a ρ, Ag (sb x a) ρ → LK E0 (t ρ) (test x a) (PE id fun _ => sb x a)) (hf : ∀ x a ρ, Ag (sb x a) ρ → LK E0 (f ρ) (elt x a) (PE (fun p => (e p.1, .no)) fun p => sb x p.2)) (hw : ∀ x a, wipeE (sb x a) vs = sh a) (hw2 : ∀ a, wipeE (sh a) vs = sh a) (hr : ∀ a, restE s (sh a) vs = sf a) (hv : ∀ a, ∀ v ∈ vs, (sh a)[v]? = some none ∨ (sh a)[v]? = none) :
    LK E (mLc vs fi tg t f ρ) (lcT test elt xs a) (PE (fun q => (eLst e q.1, .lst .no)) fun q => sf q.2) := by
  refine LK.pure hi ?_
  unfold lcT
  by_cases hl : xs.length < sizeLine
  · rw [if_pos hl, if_pos (by simpa using hl)]
    have hB := wipeE_mono (vs := vs) hA
    rw [h0] at hB
    have : ∀ r, lcS test elt xs a = .ok r → _ := fun r => lcGo_lk htg ht hf hw xs a _ r hB
    cases er : lcS test elt xs a with
    | stuck => trivial
    | err c fs =>
      exfalso
      have : ∀ (xs : List α) (a : S), lcS test elt xs a ≠ .err c fs := by
        intro xs
        induction xs with
        | nil => intro a h; cases h
        | cons x xs ih =>
          intro a h
          rw [lcS] at h
          split at h
          · exact ih _ h
          · split at h
            · split at h <;> cases h
            · cases h
          · cases h
      exact this _ _ er
    | ok r =>
      obtain ⟨ρ', e1, h1⟩ := this r er
      rw [e1]
      have h2 := wipeE_mono (vs := vs) h1
      rw [hw2] at h2
      have h3 := restE_mono hA h2 (vs := vs) (hv r.2)
      rw [hr] at h3
      exact ⟨_, _, rfl, rfl, h3⟩
  · rw [if_neg hl]; trivial
theorem LK.lcsc {u : TR γ} {sh : γ → S → Spc} {sb : γ → α → S → Spc} {sf : γ → S → Spc} {s : γ → Spc} {test : γ → α → S → TR Bool} {elt : γ → α → S → TR (β × S)} {xs : γ → List α} {a : γ → S} {e : β → D} {T : γ → List β × S → δ} {enc : δ → DO} {sp : δ → Spc} (hi : LK E (fi ρ) u (PE (fun c => (xs c).map encx) s)) (h0 : ∀ c, wipeE (s c) vs = sh c (a c)) (htg : ∀ c x a ρ, Ag (sh c a) ρ → ∃ ρ1, tg (encx x) ρ = some ρ1 ∧ Ag (sb c x a) ρ1)
    (ht : ∀ c x a ρ, Ag (sb c x a) ρ → LK E0 (t ρ) (test c x a) (PE id fun _ => sb c x a)) (hf : ∀ c x a ρ, Ag (sb c x a) ρ → LK E0 (f ρ) (elt c x a) (PE (fun p => (e p.1, .no)) fun p => sb c x p.2)) (hw : ∀ c x a, wipeE (sb c x a) vs = sh c a) (hw2 : ∀ c a, wipeE (sh c a) vs = sh c a) (hr : ∀ c a, restE (s c) (sh c a) vs = sf c a) (hv : ∀ c a, ∀ v ∈ vs, (sh c a)[v]? = some none ∨ (sh c a)[v]? = none)
    (h1 : ∀ c q, enc (T c q) = (eLst e q.1, .lst .no)) (h2 : ∀ c q, sp (T c q) = sf c q.2) :
    LK E (mLc vs fi tg t f ρ) (u.bind fun c => (lcT (test c) (elt c) (xs c) (a c)).bind fun q => .ok (T c q)) (PE enc sp) := by
  refine LK.bind hi fun c ρ' hB => ?_
  have := LK.lcs (E := E) (fi := M.ret ((xs c).map encx)) (ρ := ρ') rfl hB (h0 c) (htg c) (ht c) (hf c) (hw c) (hw2 c) (hr c) (hv c)
  refine (show LK E _ _ _ from this).map fun q b ρ'' hp => ?_
  obtain ⟨e1, h3⟩ := hp
  exact ⟨by rw [h1]; exact e1, by rw [h2]; exact h3⟩
def unitF (f : α → TR β) (x : α) (_ : Unit) : TR (β × Unit) := (f x).bind fun b => .ok (b, ())
theorem lc1_eq {test : α → TR Bool} {f : α → TR β} : ∀ xs : List α, lc1S test f xs = (lcS (S := Unit) (fun x _ => test x) (unitF f) xs ()).bind fun q => .ok q.1
  | [] => rfl
  | x :: xs => by
    have ih := lc1_eq (test := test) (f := f) xs
    rw [lc1S, lcS]
    cases test x with
    | stuck => rfl
    | err c fs => rfl
    | ok b =>
      cases b with
      | false => exact ih
      | true =>
        dsimp only
        cases hf : f x with
        | stuck => rw [show unitF f x () = .stuck by unfold unitF; rw [hf]; rfl]; rfl
        | err c fs => rw [show unitF f x () = .err c fs by unfold unitF; rw [hf]; rfl]; rfl
        | ok p =>
          rw [show unitF f x () = .ok (p, ()) by unfold unitF; rw [hf]; rfl]
          dsimp only
          rw [ih]
          cases lcS (S := Unit) (fun x _ => test x) (unitF f) xs () <;> rfl
theorem LK.lc1 {s sh sf : Spc} {sb : α → Spc} {test : α → TR Bool} {elt : α → TR β} {xs : List α} (hi : fi ρ = .ok (xs.map encx) ρ) (hA : Ag s ρ) (h0 : wipeE s vs = sh) (htg : ∀ x ρ, Ag sh ρ → ∃ ρ1, tg (encx x) ρ = some ρ1 ∧ Ag (sb x) ρ1)
    (ht : ∀ x ρ, Ag (sb x) ρ → LK E0 (t ρ) (test x) (PE id fun _ => sb x)) (hf : ∀ x ρ, Ag (sb x) ρ → LK E0 (f ρ) (elt x) (PE (fun p => (e p, .no)) fun _ => sb x)) (hw : ∀ x, wipeE (sb x) vs = sh) (hw2 : wipeE sh vs = sh) (hr : restE s sh vs = sf) (hv : ∀ v ∈ vs, sh[v]? = some none ∨ sh[v]? = none) :
    LK E (mLc vs fi tg t f ρ) (lc1 test elt xs) (PE (fun q => (eLst e q, .lst .no)) fun _ => sf) := by
  have := LK.lcs (E := E) (S := Unit) (fi := fi) (sh := fun _ => sh) (sb := fun x _ => sb x) (sf := fun _ => sf) (test := fun x _ => test x) (elt := unitF elt) (a := ()) (e := e) hi hA h0 (fun x _ => htg x) (fun x _ => ht x) (fun x _ ρ h => (hf x ρ h).map fun p b ρ' hp => hp) (fun x _ => hw x) (fun _ => hw2) (fun _ => hr) (fun _ => hv)
  have h2 := this.map (g := fun q : List β × Unit => q.1) (Q := PE (fun q => (eLst e q, Own.lst .no)) fun _ => sf) fun q b ρ' hp => hp
  have h3 : (lcT (S := Unit) (fun x _ => test x) (unitF elt) xs ()).bind (fun q => .ok q.1) = DL.lc1 test elt xs := by
    unfold lcT DL.lc1
    split
    · exact (lc1_eq xs).symm
    · rfl
  rwa [h3] at h2
theorem LK.lc1c {u : TR γ} {s sh sf : γ → Spc} {sb : γ → α → Spc} {test : γ → α → TR Bool} {elt : γ → α → TR β} {xs : γ → List α} {T : γ → List β → δ} {enc : δ → DO} {sp : δ → Spc} (hi : LK E (fi ρ) u (PE (fun c => (xs c).map encx) s)) (h0 : ∀ c, wipeE (s c) vs = sh c) (htg : ∀ c x ρ, Ag (sh c) ρ → ∃ ρ1, tg (encx x) ρ = some ρ1 ∧ Ag (sb c x) ρ1)
    (ht : ∀ c x ρ, Ag (sb c x) ρ → LK E0 (t ρ) (test c x) (PE id fun _ => sb c x)) (hf : ∀ c x ρ, Ag (sb c x) ρ → LK E0 (f ρ) (elt c x) (PE (fun p => (e p, .no)) fun _ => sb c x)) (hw : ∀ c x, wipeE (sb c x) vs = sh c) (hw2 : ∀ c, wipeE (sh c) vs = sh c) (hr : ∀ c, restE (s c) (sh c) vs = sf c) (hv : ∀ c, ∀ v ∈ vs, (sh c)[v]? = some none ∨ (sh c)[v]? = none)
    (h1 : ∀ c q, enc (T c q) = (eLst e q, .lst .no)) (h2 : ∀ c q, sp (T c q) = sf c) :
    LK E (mLc vs fi tg t f ρ) (u.bind fun c => (DL.lc1 (test c) (elt c) (xs c)).bind fun q => .ok (T c q)) (PE enc sp) := by
  refine LK.bind hi fun c ρ' hB => ?_
  have := LK.lc1 (E := E) (fi := M.ret ((xs c).map encx)) (ρ := ρ') rfl hB (h0 c) (htg c) (ht c) (hf c) (hw c) (hw2 c) (hr c) (hv c)
  refine (show LK E _ _ _ from this).map fun q b ρ'' hp => ?_
  obtain ⟨e1, h3⟩ := hp
  exact ⟨by rw [h1]; exact e1, by rw [h2]; exact h3⟩
/-! dict comprehensions, all pure -/
def dcS [DecidableEq κ] (k : α → κ) (v : α → β) : List α → List (κ × β) → List (κ × β)
  | [], acc => acc
  | x :: xs, acc => dcS k v xs (tput acc (k x) (v x))
def dcT [DecidableEq κ] (k : α → κ) (v : α → β) (xs : List α) : TR (List (κ × β)) := TR.guard (decide (xs.length < sizeLine)) (dcS k v xs [])
theorem LK.dc [DecidableEq κ] {ek : κ → Key} {ek' : κ → D} {o : Own} {s sh sf : Spc} {sb : α → Spc} {k : α → κ} {v : α → β} {xs : List α} (hek : ∀ a b, ek a = ek b → a = b) (hk' : ∀ a, keyOf (ek' a) = some (ek a)) (hi : fi ρ = .ok (xs.map encx) ρ) (hA : Ag s ρ) (h0 : wipeE s vs = sh) (htg : ∀ x ρ, Ag sh ρ → ∃ ρ1, tg (encx x) ρ = some ρ1 ∧ Ag (sb x) ρ1)
    (ht : ∀ x ρ, Ag (sb x) ρ → t ρ = .ok true ρ) (hk : ∀ x ρ, Ag (sb x) ρ → fk ρ = .ok (ek' (k x), o) ρ) (hf : ∀ x ρ, Ag (sb x) ρ → f ρ = .ok (e (v x), .no) ρ) (hw : ∀ x, wipeE (sb x) vs = sh) (hw2 : wipeE sh vs = sh) (hr : restE s sh vs = sf) (hv : ∀ v ∈ vs, sh[v]? = some none ∨ sh[v]? = none) :
    LK E (mDc vs fi tg t fk f ρ) (dcT k v xs) (PE (fun q => (eDic ek e q, .lst .no)) fun _ => sf) := by
  have go : ∀ (xs : List α) (ρ : Env) (acc : List (κ × β)), Ag sh ρ → ∃ ρ', dcGo vs tg t fk f (xs.map encx) ρ (acc.map fun p => (ek p.1, e p.2)) = some ((dcS k v xs acc).map fun p => (ek p.1, e p.2), ρ') ∧ Ag sh ρ' := by
    intro xs
    induction xs with
    | nil => intro ρ acc h; exact ⟨ρ, rfl, h⟩
    | cons x xs ih =>
      intro ρ acc h
      obtain ⟨ρ1, e1, h1⟩ := htg x ρ h
      rw [List.map_cons, dcGo, e1]
      dsimp only
      rw [ht x ρ1 h1]
      dsimp only
      rw [hk x ρ1 h1]
      dsimp only
      rw [hf x ρ1 h1]
      dsimp only
      rw [hk']
      dsimp only
      rw [dput_map hek]
      have h4 := wipeE_mono (vs := vs) h1
      rw [hw] at h4
      exact ih _ _ h4
  refine LK.pure hi ?_
  unfold dcT TR.guard
  by_cases hl : xs.length < sizeLine
  · rw [if_pos (decide_eq_true hl), if_pos (by simpa using hl)]
    have hB := wipeE_mono (vs := vs) hA
    rw [h0] at hB
    obtain ⟨ρ', e1, h1⟩ := go xs _ [] hB
    rw [List.map_nil] at e1
    rw [e1]
    have h2 := wipeE_mono (vs := vs) h1
    rw [hw2] at h2
    have h3 := restE_mono hA h2 (vs := vs) hv
    rw [hr] at h3
    exact ⟨_, _, rfl, rfl, h3⟩
  · rw [if_neg (show ¬ (xs.map encx).length < sizeLine by simpa using hl), if_neg (show ¬ decide (xs.length < sizeLine) = true by simpa using hl)]; trivial
end
end DL
/-! Typed layer: what the generator leans on. -/
namespace DL
open PySem PySem.Spec L2
section
variable {α β γ δ S L R : Type} {E : EP} {ρ : Env} {s : Spc} {f : M DO}
/-- a list or a tuple -/
def eSq (e : α → D) : Bool × List α → D
  | (true, xs) => .lst (xs.map e)
  | (false, xs) => .tup (xs.map e)
theorem items_sq {e : α → D} (p : Bool × List α) : itemsD (eSq e p) = some (p.2.map e) := by
  obtain ⟨b, xs⟩ := p; cases b <;> rfl
theorem tuple_sq {e : α → D} (p : Bool × List α) : gTuple [(eSq e p, .no)] ρ = .ok (eTup e p.2, .no) ρ := by
  obtain ⟨b, xs⟩ := p; cases b <;> rfl
theorem list_sq {e : α → D} (p : Bool × List α) : gList [(eSq e p, .no)] ρ = .ok (eLst e p.2, .lst .no) ρ := by
  obtain ⟨b, xs⟩ := p; cases b <;> rfl
theorem len_sq {e : α → D} {o : Own} (p : Bool × List α) : gLen [(eSq e p, o)] ρ = .ok (.int p.2.length, .no) ρ := by
  obtain ⟨b, xs⟩ := p; cases b <;> simp [eSq, gLen, g1, gFlat1, dLen]
theorem LK.frz {t : TR α} {e : α → D} {o : α → Own} {sp : α → Spc} (h : LK E (f ρ) t (PE (fun a => (e a, o a)) sp)) : LK E (mFrz f ρ) t (PE (fun a => (e a, .no)) sp) := by
  cases t with
  | stuck => trivial
  | ok a => obtain ⟨b, ρ', h1, rfl, h2⟩ := h; exact ⟨_, _, pb' h1, rfl, h2⟩
  | err c fs => obtain ⟨h0, ρ', h1, h2⟩ := h; exact ⟨h0, ρ', by unfold mFrz M.bind; rw [h1], h2⟩
where pb' {d : D} {o : Own} {ρ' : Env} (h1 : f ρ = .ok (d, o) ρ') : mFrz f ρ = .ok (d, .no) ρ' := by unfold mFrz M.bind; rw [h1]; rfl
theorem LK.chk {t : TR α} {e : α → D} {sp : α → Spc} (h : LK E (f ρ) t (PE (fun a => (e a, .no)) sp)) : LK E (mChk f ρ) t (PE (fun a => (e a, .no)) sp) := by
  cases t with
  | stuck => trivial
  | ok a => obtain ⟨b, ρ', h1, rfl, h2⟩ := h; exact ⟨_, _, by unfold mChk M.bind; rw [h1], rfl, h2⟩
  | err c fs => obtain ⟨h0, ρ', h1, h2⟩ := h; exact ⟨h0, ρ', by unfold mChk M.bind; rw [h1], h2⟩
/-! tests -/
theorem LK.bool {t : TR α} {b : α → Bool} {o : α → Own} {sp : α → Spc} (h : LK E (f ρ) t (PE (fun a => (.bl (b a), o a)) sp)) : LK E (mBool f ρ) t (PE b sp) := by
  cases t with
  | stuck => trivial
  | ok a => obtain ⟨x, ρ', h1, rfl, h2⟩ := h; exact ⟨_, _, by unfold mBool M.bind; rw [h1], rfl, h2⟩
  | err c fs => obtain ⟨h0, ρ', h1, h2⟩ := h; exact ⟨h0, ρ', by unfold mBool M.bind; rw [h1], h2⟩
theorem LK.tru {t : TR α} {e : α → D} {b : α → Bool} {o : α → Own} {sp : α → Spc} (h : LK E (f ρ) t (PE (fun a => (e a, o a)) sp)) (hb : ∀ a, dTru (e a) = some (b a)) : LK E (mTru f ρ) t (PE b sp) := by
  cases t with
  | stuck => trivial
  | ok a => obtain ⟨x, ρ', h1, rfl, h2⟩ := h; exact ⟨b a, ρ', by unfold mTru M.bind; rw [h1]; show M.opt _ ρ' = _; rw [hb]; rfl, rfl, h2⟩
  | err c fs => obtain ⟨h0, ρ', h1, h2⟩ := h; exact ⟨h0, ρ', by unfold mTru M.bind; rw [h1], h2⟩
theorem LK.notT {m : M Bool} {t : TR α} {b : α → Bool} {sp : α → Spc} (h : LK E (m ρ) t (PE b sp)) : LK E (mNotT m ρ) t (PE (fun a => !(b a)) sp) := by
  cases t with
  | stuck => trivial
  | ok a => obtain ⟨x, ρ', h1, rfl, h2⟩ := h; exact ⟨_, _, by unfold mNotT M.bind; rw [h1]; rfl, rfl, h2⟩
  | err c fs => obtain ⟨h0, ρ', h1, h2⟩ := h; exact ⟨h0, ρ', by unfold mNotT M.bind; rw [h1], h2⟩
/-- both tests; the second is asked where the first holds (nothing changes on the way) -/
def andT (a b : TR Bool) : TR Bool := a.bind fun k => if k = true then b else .ok false
def orT (a b : TR Bool) : TR Bool := a.bind fun k => if k = true then .ok true else b
@[simp] theorem andT_true (b : TR Bool) : andT (.ok true) b = b := (rfl)
@[simp] theorem andT_false (b : TR Bool) : andT (.ok false) b = .ok false := (rfl)
@[simp] theorem orT_true (b : TR Bool) : orT (.ok true) b = .ok true := (rfl)
@[simp] theorem orT_false (b : TR Bool) : orT (.ok false) b = b := (rfl)
theorem andT_ok (a b : Bool) : andT (.ok a) (.ok b) = .ok (a && b) := by cases a <;> rfl
theorem orT_ok (a b : Bool) : orT (.ok a) (.ok b) = .ok (a || b) := by cases a <;> rfl
theorem LK.andT {m n : M Bool} {t u : TR Bool} (h : LK E (m ρ) t (PE id fun _ => s)) (h' : ∀ ρ, Ag s ρ → LK E (n ρ) u (PE id fun _ => s)) : LK E (mAndT m n ρ) (DL.andT t u) (PE id fun _ => s) := by
  refine LK.bind h fun a ρ' hA => ?_
  cases a with
  | true => exact h' ρ' hA
  | false => exact ⟨_, _, rfl, rfl, hA⟩
theorem LK.orT {m n : M Bool} {t u : TR Bool} (h : LK E (m ρ) t (PE id fun _ => s)) (h' : ∀ ρ, Ag s ρ → LK E (n ρ) u (PE id fun _ => s)) : LK E (mOrT m n ρ) (DL.orT t u) (PE id fun _ => s) := by
  refine LK.bind h fun a ρ' hA => ?_
  cases a with
  | true => exact ⟨_, _, rfl, rfl, hA⟩
  | false => exact h' ρ' hA
theorem LK.andV {n : M DO} {t u : TR Bool} {o : Bool → Own} (h : LK E (f ρ) t (PE (fun b => (.bl b, o b)) fun _ => s)) (h' : ∀ ρ, Ag s ρ → LK E (n ρ) u (PE (fun b => (.bl b, .no)) fun _ => s)) : LK E (mAndV f n ρ) (DL.andT t u) (PE (fun b => (.bl b, .no)) fun _ => s) := by
  refine LK.bind (LK.bool (b := id) h) fun a ρ' hA => ?_
  cases a with
  | true => exact h' ρ' hA
  | false => exact ⟨_, _, rfl, rfl, hA⟩
theorem LK.orV {n : M DO} {t u : TR Bool} {o : Bool → Own} (h : LK E (f ρ) t (PE (fun b => (.bl b, o b)) fun _ => s)) (h' : ∀ ρ, Ag s ρ → LK E (n ρ) u (PE (fun b => (.bl b, .no)) fun _ => s)) : LK E (mOrV f n ρ) (DL.orT t u) (PE (fun b => (.bl b, .no)) fun _ => s) := by
  refine LK.bind (LK.bool (b := id) h) fun a ρ' hA => ?_
  cases a with
  | true => exact ⟨_, _, rfl, rfl, hA⟩
  | false => exact h' ρ' hA
theorem LK.notV {t : TR Bool} {o : Bool → Own} {sp : Bool → Spc} (h : LK E (f ρ) t (PE (fun b => (.bl b, o b)) fun _ => s)) : LK E (mNotV f ρ) (t.bind fun b => .ok (!b)) (PE (fun b => (.bl b, .no)) fun _ => s) := LK.bind (LK.bool (b := id) h) fun a ρ' hA => ⟨_, _, rfl, rfl, hA⟩
/-! lists of arguments -/
theorem LK.nil : True := trivial
/-! int() of a test -/
theorem int_B (b : Bool) : gInt [(.bl b, .no)] ρ = .ok (.int (if b then 1 else 0), .no) ρ := by cases b <;> rfl
/-! a result that must be fit to be handed back -/
def TR.ind (enc : α → DO) (t : TR α) : TR α := t.bind fun a => TR.guard (indD (enc a).1 (enc a).2) a
theorem LF.runG {n : Nat} {ds : List DO} {g : M Fl} {t : TR (Fo Empty Empty R)} {er : R → DO} (h : LK E0 (g (ds.map some ++ List.replicate (n - ds.length) none)) t (PF spE0 spE0 er fun _ _ => True)) : LF (runBody n [] g ds) (t.fin.ind er) er := by
  cases t with
  | stuck => trivial
  | err c fs => obtain ⟨h0, ρ, e, _⟩ := h; exact ⟨h0, by unfold runBody; rw [e]; rfl⟩
  | ok a =>
    obtain ⟨b, ρ, e, hp⟩ := h
    cases a with
    | nx s => exact nomatch s
    | ct s => exact nomatch s
    | bk s => exact nomatch s
    | rt r =>
      obtain ⟨rfl, _⟩ := hp
      show LF _ (TR.guard _ _) _
      unfold TR.guard
      split
      · rename_i hi; exact ⟨by unfold runBody; rw [e]; rfl, hi⟩
      · trivial
/-- a def that is only asked as it is -/
def asT (r : Rf) (k : DO → Option β) : TR β := match r with
  | .ok x [] => (match k x with | some b => .ok b | none => .stuck)
  | _ => .stuck
def boolD : DO → Option Bool
  | (.bl b, .no) => some b
  | _ => none
theorem LF.asB (r : Rf) : LF r (asT r boolD) fun b => (.bl b, .no) := by
  unfold asT
  split
  · rename_i x
    cases h : boolD x with
    | none => trivial
    | some b =>
      dsimp only
      have : x = (.bl b, .no) := by
        unfold boolD at h
        split at h
        · cases h; rfl
        · cases h
      subst this
      exact ⟨rfl, rfl⟩
  · trivial
/-! what an exception holds; what it is -/
def xfT (fs : List (String × D)) (f : String) : TR D := TR.opt (fs.lookup f)
theorem po_xf (fs : List (String × D)) (f : String) : PO (mXf fs f) (xfT fs f) fun d => (d, .no) := PO.opt fun d h ρ => by unfold mXf; rw [h]; rfl
def isXT (it : IT) (c0 : String) (c : D) : TR Bool := TR.opt (isaD it (.o c0) c)
theorem LK.isX {it : IT} {c0 : String} {c : D} {o : Own} (hf : f ρ = .ok (c, o) ρ) (hA : Ag s ρ) : LK E (mIsX it c0 f ρ) (isXT it c0 c) (PE (fun b => (.bl b, .no)) fun _ => s) := by
  refine LK.pure hf ?_
  unfold isXT
  dsimp only
  cases isaD it (.o c0) c with
  | none => trivial
  | some b => exact ⟨_, _, rfl, rfl, hA⟩
/-- the fields of a new object -/
theorem fset_ok {tab : CT} {c f : String} {fds : List (String × D)} (h1 : hasF tab c f = true) (h2 : fds.length < 1000) (h3 : (fds.map (·.1)).Nodup) : hasF tab c f = true ∧ fds.length < 1000 ∧ (fds.map (·.1)).Nodup := ⟨h1, h2, h3⟩
end
end DL
namespace DL
open PySem PySem.Spec L2
section
variable {α β γ δ S L R : Type} {E : EP} {ρ : Env} {s : Spc} {f fc : M DO} {fs : M (List DO)}
theorem q3 {g g' : DO → DO → M DO} {x y z : DO} {b c : Bool} (hc : fc ρ = .ok z ρ) (hg : g x y ρ = .ok (.bl b, .no) ρ) (hg' : g' y z ρ = .ok (.bl c, .no) ρ) : M.bind (mBool (g x y)) (fun k => if k = true then M.bind fc fun z => g' y z else M.ret (.bl false, .no)) ρ = .ok (.bl (b && c), .no) ρ := by
  refine pb (b := b) (pb hg rfl) ?_
  cases b with
  | true => exact pb hc hg'
  | false => rfl
theorem LK.m3 {g g' : DO → DO → M DO} {x y : DO} {b : Bool} {T : TR Bool} (hg : g x y ρ = .ok (.bl b, .no) ρ) (hA : Ag s ρ) (h : ∀ ρ, Ag s ρ → LK E (M.bind fc (fun z => g' y z) ρ) T (PE (fun b => (.bl b, .no)) fun _ => s)) : LK E (M.bind (mBool (g x y)) (fun k => if k = true then M.bind fc fun z => g' y z else M.ret (.bl false, .no)) ρ) (DL.andT (.ok b) T) (PE (fun b => (.bl b, .no)) fun _ => s) := by
  refine LK.pure (b := b) (pb hg rfl) ?_
  cases b with
  | true => exact h ρ hA
  | false => exact ⟨_, _, rfl, rfl, hA⟩
theorem LK.some {o : Option α} {e : α → D} {w : Own} (hf : f ρ = .ok (eOpt e o, w) ρ) (hA : Ag s ρ) : LK E (f ρ) (TR.opt o) (PE (fun a => (e a, w)) fun _ => s) := by
  cases o with
  | none => trivial
  | some a => exact ⟨_, _, hf, rfl, hA⟩
theorem LK.part1 {t : TR α} {v : α → Int} {o : α → Own} {sp : α → Spc} (h : LK E (f ρ) t (PE (fun p => (.int (v p), o p)) sp)) : LK E (mPart f ρ) t (PE (fun p => Option.some (v p)) sp) := by
  cases t with
  | stuck => trivial
  | ok a => obtain ⟨x, ρ', h1, rfl, h2⟩ := h; exact ⟨_, _, by unfold mPart M.bind; rw [h1], rfl, h2⟩
  | err c fs => obtain ⟨h0, ρ', h1, h2⟩ := h; exact ⟨h0, ρ', by unfold mPart M.bind; rw [h1], h2⟩
theorem LK.items {t : TR α} {d : α → D} {o : α → Own} {ds : α → List D} {sp : α → Spc} (h : LK E (f ρ) t (PE (fun p => (d p, o p)) sp)) (hd : ∀ p, itemsD (d p) = Option.some (ds p)) : LK E (mItems f ρ) t (PE ds sp) := by
  cases t with
  | stuck => trivial
  | ok a => obtain ⟨x, ρ', h1, rfl, h2⟩ := h; exact ⟨_, _, by unfold mItems M.bind; rw [h1]; simp only [hd], rfl, h2⟩
  | err c fs => obtain ⟨h0, ρ', h1, h2⟩ := h; exact ⟨h0, ρ', by unfold mItems M.bind; rw [h1], h2⟩
/-! arguments one by one -/
def LA (E : EP) (κ : List DO → List DO) (fs : M (List DO)) (ρ : Env) (T : TR α) (encs : α → List DO) (sp : α → Spc) : Prop := LK E (M.bind fs (fun xs => M.ret (κ xs)) ρ) T (PE encs sp)
theorem LA.done {T : TR α} {encs : α → List DO} {sp : α → Spc} (h : LA E (fun xs => xs) fs ρ T encs sp) : LK E (fs ρ) T (PE encs sp) := by
  unfold LA at h
  have e : M.bind fs (fun xs => M.ret xs) ρ = fs ρ := by unfold M.bind M.ret; cases fs ρ <;> rfl
  rwa [e] at h
theorem LA.nil {κ : List DO → List DO} {a : α} {encs : α → List DO} {sp : α → Spc} (hA : Ag (sp a) ρ) (e : encs a = κ [] := by rfl) : LA E κ mNil ρ (.ok a) encs sp := ⟨_, _, rfl, e.symm, hA⟩
theorem cons_bind {κ : List DO → List DO} : M.bind (mCons f fs) (fun xs => M.ret (κ xs)) ρ = M.bind f (fun x => M.bind fs fun xs => M.ret (κ (x :: xs))) ρ := by
  unfold mCons M.bind M.ret
  cases f ρ with
  | stuck => rfl
  | err c fs ρ' => rfl
  | ok a ρ' => dsimp only; cases fs ρ' <;> rfl
theorem LA.pure {κ : List DO → List DO} {x : DO} {T : TR α} {encs : α → List DO} {sp : α → Spc} (hf : f ρ = .ok x ρ) (h : LA E (fun xs => κ (x :: xs)) fs ρ T encs sp) : LA E κ (mCons f fs) ρ T encs sp := by
  unfold LA at h ⊢
  rw [cons_bind]
  exact LK.pure hf h
theorem LA.comp {κ : List DO → List DO} {t : TR β} {T : β → TR α} {enc : β → DO} {sp : β → Spc} {encs : α → List DO} {sp' : α → Spc} (hf : LK E (f ρ) t (PE enc sp)) (h : ∀ b ρ', Ag (sp b) ρ' → LA E (fun xs => κ (enc b :: xs)) fs ρ' (T b) encs sp') : LA E κ (mCons f fs) ρ (t.bind T) encs sp' := by
  unfold LA
  rw [cons_bind]
  exact LK.bind hf h
theorem rev_L {e : α → D} {xs : List α} (hf : f ρ = .ok (eLst e xs, .no) ρ) : mRev f ρ = .ok (xs.reverse.map e) ρ := pb hf (by simp only [List.map_reverse])
theorem rev_T {e : α → D} {xs : List α} (hf : f ρ = .ok (eTup e xs, .no) ρ) : mRev f ρ = .ok (xs.reverse.map e) ρ := pb hf (by simp only [List.map_reverse])
/-! places again -/
theorem getP_f {tab : CT} {i : Nat} {c fn : String} {fds : List (String × D)} {fo : List (String × Own)} {d : D} {o : Own} (h : s[i]? = Option.some (Option.some (.obj c fds, .obj fo))) (h1 : hasF tab c fn = true) (h2 : fds.lookup fn = Option.some d) (h3 : ownF fo fn = o) : getP tab (.f i fn) s = Option.some (d, o) := by
  dsimp only [getP]
  rw [h]
  dsimp only
  rw [if_pos h1, h2, h3]; rfl
theorem setP_f {i : Nat} {c fn : String} {fds : List (String × D)} {o : Own} {d : D} (h : s[i]? = Option.some (Option.some (.obj c fds, o))) : setP (.f i fn) d s = s.set i (Option.some (.obj c (fput fn d fds), o)) := by
  dsimp only [setP]
  rw [h]
theorem LK.append' {tab : CT} {pl : Pl} {ys : List α} {y : α} {e : α → D} {c : Own} {x : DO} {sp : List α → Spc} (hA : Ag s ρ) (hf : fs ρ = .ok [x] ρ) (hx : x = (e y, c)) (hg : getP tab pl s = Option.some (.lst (ys.map e), .lst c)) (hc : sameOwn c c = true) (hs : ∀ zs : List α, setP pl (.lst (zs.map e)) s = sp zs) : LK E (mAppend tab pl fs ρ) (appT ys y) (PE (fun _ => (.non, .no)) sp) := by
  have := LK.append (E := E) hA hf hx hg hc
  rwa [show (fun zs : List α => setP pl (.lst (zs.map e)) s) = sp from funext hs] at this
theorem LS.put' {tab : CT} {pl : Pl} {fk fv : M DO} {h : M Fl} {k v y : DO} {t : TR α} {encD : α → D} {s1 : α → Spc} {T : α → TR γ} {Q : γ → Fl → Env → Prop} (hA : Ag s ρ) (hv : fv ρ = .ok v ρ) (hk : fk ρ = .ok k ρ) (hg : getP tab pl s = Option.some y) (hn : ∀ c fs, t ≠ .err c fs) (hp : ∀ a, t = .ok a → putD k.1 v y = Option.some (encD a)) (hs : ∀ a, setP pl (encD a) s = s1 a) (h2 : ∀ a ρ', Ag (s1 a) ρ' → LK E (h ρ') (T a) Q) : LK E (mSeq (mPut tab pl fk fv) h ρ) (t.bind T) Q :=
  LS.put hA hv hk hg hn hp fun a ρ' hB => h2 a ρ' (by rw [← hs]; exact hB)
/-- one of two things set at once -/
theorem LS.par {i j : Nat} {fs : M (List DO)} {h : M Fl} {d d' : D} {T : TR γ} {Q : γ → Fl → Env → Prop} (hA : Ag s ρ) (hf : fs ρ = .ok [(d, .no), (d', .no)] ρ) (h2 : ∀ ρ', Ag ((s.set i (Option.some (d, .no))).set j (Option.some (d', .no))) ρ' → LK E (h ρ') T Q) : LK E (mSeq (mPar i j fs) h ρ) T Q := by
  have e0 : mPar i j fs ρ = .ok .nx ((ρ.set i (Option.some (d, .no))).set j (Option.some (d', .no))) := pb hf rfl
  unfold mSeq
  rw [e0]
  exact h2 _ ((hA.set i _).set j _)
/-- the state under another form -/
theorem Ag.to {s s' : Spc} {ρ : Env} (h : Ag s ρ) (e : s = s') : Ag s' ρ := e ▸ h
end
end DL
namespace DL
open PySem PySem.Spec L2
section
variable {α β γ δ S L R : Type} {E : EP} {ρ : Env} {s : Spc}
/-- a field of an object is set -/
def FS (tab : CT) (f : String) (d : D) (o : Own) (x : DO) (d' : D) : Prop := ∃ c fds fo, d = .obj c fds ∧ o = .obj fo ∧ hasF tab c f = true ∧ fds.length < 1000 ∧ (fds.map (·.1)).Nodup ∧ d' = .obj c (fput f x.1 fds) ∧ oput f x.1 x.2 fo = fo
theorem LS.fset' {tab : CT} {i : Nat} {f : String} {fe : M DO} {h : M Fl} {x : DO} {d d' : D} {o : Own} {T : TR γ} {Q : γ → Fl → Env → Prop} (hA : Ag s ρ) (hf : fe ρ = .ok x ρ) (e : s[i]? = some (some (d, o))) (hF : FS tab f d o x d') (h3 : ∀ ρ', Ag (s.set i (some (d', o))) ρ' → LK E (h ρ') T Q) : LK E (mSeq (mFSet tab i f fe) h ρ) T Q := by
  obtain ⟨c, fds, fo, rfl, rfl, a1, a2, a3, rfl, a4⟩ := hF
  exact LS.fset hA hf e ⟨a1, a2, a3⟩ rfl a4 h3
theorem LS.fsetc' {tab : CT} {i : Nat} {f : String} {fe : M DO} {h : M Fl} {t : TR α} {enc : α → DO} {sp : α → Spc} {z : α → β} {e : β → D} {d' : α → D} {o : Own} {T : α → TR γ} {Q : γ → Fl → Env → Prop} (hf : LK E (fe ρ) t (PE enc sp)) (he : ∀ a, (sp a)[i]? = some (some (e (z a), o))) (hF : ∀ a, FS tab f (e (z a)) o (enc a) (d' a)) (h3 : ∀ a ρ', Ag ((sp a).set i (some (d' a, o))) ρ' → LK E (h ρ') (T a) Q) : LK E (mSeq (mFSet tab i f fe) h ρ) (t.bind T) Q := by
  rw [mFSet, seq_bind]
  refine LK.bind hf fun a ρ' hA => ?_
  have := LS.fset' (E := E) (fe := M.ret (enc a)) (h := h) (T := T a) (Q := Q) hA rfl (he a) (hF a) (h3 a)
  rw [mFSet, seq_bind] at this
  exact this
theorem LFm.init {r : Rf} {t : TR (Unit × α)} {self : α → DO} (h : LFm 1 r t (fun _ => (.non, .no)) fun q => [self q.2]) : LFm 1 r (t.bind fun p => .ok p.2) (fun _ => (.non, .no)) fun a => [self a] := by
  cases t with
  | stuck => trivial
  | ok a => exact h
  | err c fs => exact h
theorem LF.run0 {n : Nat} {ds : List DO} {g : M Fl} {t : TR (Fo Empty Empty R)} {er : R → DO} (hi : ∀ r, indD (er r).1 (er r).2 = true) (e0 : ds.map some ++ List.replicate (n - ds.length) none = s) (h : Ag s s → LK E0 (g s) t (PF spE0 spE0 er fun _ _ => True)) : LF (runBody n [] g ds) t.fin er := by
  subst e0; exact LF.run hi (h (Ag.refl _))
theorem LF.runG0 {n : Nat} {ds : List DO} {g : M Fl} {t : TR (Fo Empty Empty R)} {er : R → DO} (e0 : ds.map some ++ List.replicate (n - ds.length) none = s) (h : Ag s s → LK E0 (g s) t (PF spE0 spE0 er fun _ _ => True)) : LF (runBody n [] g ds) (t.fin.ind er) er := by
  subst e0; exact LF.runG (h (Ag.refl _))
theorem LF.runN0 {n : Nat} {ds : List DO} {g : M Fl} {sn : R → Spc} {t : TR (Fo R Empty R)} {er : R → DO} (he : ∀ r, er r = (.non, .no)) (e0 : ds.map some ++ List.replicate (n - ds.length) none = s) (h : Ag s s → LK E0 (g s) t (PF sn spE0 er fun _ _ => True)) : LF (runBody n [] g ds) t.finN er := by
  subst e0; exact LF.runN he (h (Ag.refl _))
theorem LFm.run0 {n : Nat} {mi : List Nat} {ds : List DO} {g : M Fl} {t : TR (Fo Empty Empty R)} {er : R → DO} {ms : R → List DO} (e0 : ds.map some ++ List.replicate (n - ds.length) none = s) (h : Ag s s → LK (EM mi) (g s) t (PF spE0 spE0 er fun r ρ => takeMuts mi ρ = some (ms r))) : LFm mi.length (runBody n mi g ds) t.fin er ms := by
  subst e0; exact LFm.run (h (Ag.refl _))
theorem LFm.runZ0 {n : Nat} {ds : List DO} {g : M Fl} {t : TR (Fo Empty Empty R)} {er : R → DO} (e0 : ds.map some ++ List.replicate (n - ds.length) none = s) (h : Ag s s → LK E0 (g s) t (PF spE0 spE0 er fun _ _ => True)) : LFm 0 (runBody n [] g ds) t.fin er fun _ => [] := by
  subst e0
  have h := h (Ag.refl _)
  cases t with
  | stuck => trivial
  | err c fs => obtain ⟨h0, ρ, e, _⟩ := h; exact ⟨h0, [], by unfold runBody; rw [e]; rfl, rfl⟩
  | ok a =>
    obtain ⟨b, ρ, e, hp⟩ := h
    cases a with
    | nx s => exact nomatch s
    | ct s => exact nomatch s
    | bk s => exact nomatch s
    | rt r => obtain ⟨rfl, _⟩ := hp; show runBody _ _ _ _ = _; unfold runBody; rw [e]; rfl
theorem LFm.runN0 {n : Nat} {mi : List Nat} {ds : List DO} {g : M Fl} {sn : R → Spc} {t : TR (Fo R Empty R)} {er : R → DO} {ms : R → List DO} (he : ∀ r, er r = (.non, .no)) (hs : ∀ r, takeMuts mi (sn r) = some (ms r)) (e0 : ds.map some ++ List.replicate (n - ds.length) none = s) (h : Ag s s → LK (EM mi) (g s) t (PF sn spE0 er fun r ρ => takeMuts mi ρ = some (ms r))) : LFm mi.length (runBody n mi g ds) t.finN er ms := by
  subst e0; exact LFm.runN he hs (h (Ag.refl _))
theorem wipeE_nn : ∀ {vs : List Nat} {s : Spc} {v : Nat}, v ∈ vs → (wipeE s vs)[v]? = some none ∨ (wipeE s vs)[v]? = none
  | [], s, v, h => by cases h
  | u :: vs, s, v, h => by
    unfold wipeE
    by_cases e : u = v
    · subst e
      by_cases hl : u < (wipeE s vs).length
      · left; simp [hl]
      · right; simp at hl ⊢; omega
    · rw [List.getElem?_set_ne e]
      rcases List.mem_cons.mp h with h | h
      · exact absurd h.symm e
      · exact wipeE_nn h
theorem wipe_hv {s : Spc} {vs : List Nat} (h : wipeE s vs = s) : ∀ v ∈ vs, s[v]? = some none ∨ s[v]? = none := fun v hv => by
  have := wipeE_nn (s := s) hv
  rwa [h] at this
theorem small {n : Nat} (h : Nat.ble n 1000 = true) : n ≤ sizeLine := Nat.le_trans (Nat.le_of_ble_eq_true h) (by decide)
theorem eqe_tupT [DecidableEq α] {e : α → D} {n : Nat} (h : EqE e okT n) : EqE (eTup e) okT (n + 1) := eqe_T (eqe_tup h) fun x => okL_all (fun _ => rfl) x
theorem eqe_lstT [DecidableEq α] {e : α → D} {n : Nat} (h : EqE e okT n) : EqE (eLst e) okT (n + 1) := eqe_T (eqe_lst h) fun x => okL_all (fun _ => rfl) x
theorem eqe_p2T [DecidableEq α] [DecidableEq β] {e : α → D} {f : β → D} {n m : Nat} (h : EqE e okT n) (h' : EqE f okT m) : EqE (eP2 e f) okT (max n m + 1) := eqe_T (eqe_p2 h h') fun _ => rfl
theorem isi_ok {it : IT} {own : List String} {d c : D} {o o' : Own} {t : Tg} {b : Bool} (ht : tgD d = some t) (ho : okOwn own t = true) (hi : isaD it t c = some b) : gIsi it own [(d, o), (c, o')] ρ = .ok (.bl b, .no) ρ := by
  unfold gIsi
  simp only [ht, ho, hi, if_true]
theorem LS.lett {β : Type} {r : Rz β} {X : α} {s : α → Spc} {T : α → TR γ} {Q : γ → β → Env → Prop} (hA : Ag (s X) ρ) (h : ∀ v, Ag (s v) ρ → LK E r (T v) Q) : LK E r ((TR.ok X).bind T) Q := h X hA
end
end DL
/-! Rows of numbers under joins: plain. -/
namespace DL
open PySem PySem.Spec L2
@[simp] theorem TR.bind_pure {α : Type} (t : TR α) : (t.bind fun p => .ok p) = t := by cases t <;> rfl
def joinP (a b p : Int) : List Int → List Int
  | x :: y :: r => if x = a ∧ y = b then p :: joinP a b p r else x :: joinP a b p (y :: r)
  | [x] => [x]
  | [] => []
theorem drop_two {row : List Int} {i : Nat} {x y : Int} (hx : row[i]? = some x) (hy : row[i + 1]? = some y) : row.drop i = x :: y :: row.drop (i + 2) := by
  have h1 := (List.getElem?_eq_some_iff.mp hx)
  have h2 := (List.getElem?_eq_some_iff.mp hy)
  obtain ⟨h1, e1⟩ := h1
  obtain ⟨h2, e2⟩ := h2
  rw [List.drop_eq_getElem_cons h1, List.drop_eq_getElem_cons h2, e1, e2]
theorem joinP_len (a b p : Int) : ∀ row : List Int, (joinP a b p row).length ≤ row.length
  | [] => Nat.le_refl _
  | [x] => Nat.le_refl _
  | x :: y :: r => by
    unfold joinP
    split
    · have := joinP_len a b p r; simp; omega
    · have := joinP_len a b p (y :: r); simp at *; omega
def rankGo : Nat → List (Int × Int) → Int × Int → Option Nat
  | _, [], _ => none
  | k, q :: r, p => if q = p then some k else rankGo (k + 1) r p
def stGo (n : Nat) : Nat → List (Int × Int) → List Int → List Int
  | _, [], row => row
  | k, (a, b) :: r, row => stGo n (k + 1) r (joinP a b ((n : Int) + (k : Int)) row)
/-- side by side in the row -/
def Adj (row : List Int) (x y : Int) : Prop := ∃ j, row[j]? = some x ∧ row[j + 1]? = some y
theorem adj_cons {z x y : Int} {row : List Int} (h : Adj (z :: row) x y) : (z = x ∧ row[0]? = some y) ∨ Adj row x y := by
  obtain ⟨j, h1, h2⟩ := h
  cases j with
  | zero => simp at h1 h2; exact .inl ⟨h1, by simpa using h2⟩
  | succ j => exact .inr ⟨j, by simpa using h1, by simpa using h2⟩
theorem adj_tail {z x y : Int} {row : List Int} (h : Adj row x y) : Adj (z :: row) x y := by
  obtain ⟨j, h1, h2⟩ := h
  exact ⟨j + 1, by simpa using h1, by simpa using h2⟩
theorem joinP_id {a b p : Int} : ∀ {row : List Int}, ¬ Adj row a b → joinP a b p row = row
  | [], _ => rfl
  | [x], _ => rfl
  | x :: y :: r, h => by
    unfold joinP
    have hn : ¬ (x = a ∧ y = b) := fun ⟨h1, h2⟩ => h ⟨0, by simp [h1], by simp [h2]⟩
    rw [if_neg hn, joinP_id fun q => h (adj_tail q)]
theorem joinP_lt {a b p : Int} : ∀ {row : List Int}, Adj row a b → (joinP a b p row).length < row.length
  | [], h => by obtain ⟨j, h1, _⟩ := h; simp at h1
  | [x], h => by obtain ⟨j, _, h2⟩ := h; simp at h2
  | x :: y :: r, h => by
    unfold joinP
    by_cases e : x = a ∧ y = b
    · rw [if_pos e]
      have := joinP_len a b p r
      simp; omega
    · rw [if_neg e]
      have h' : Adj (y :: r) a b := by
        rcases adj_cons h with ⟨h1, h2⟩ | h
        · exact absurd ⟨h1, by simpa using h2⟩ e
        · exact h
      have := joinP_lt (p := p) h'
      simp at *; omega
theorem joinP_head {a b p : Int} : ∀ {row : List Int} {x : Int}, (joinP a b p row)[0]? = some x → x ≠ p → row[0]? = some x
  | [], x, h, _ => by simp [joinP] at h
  | [z], x, h, _ => by simpa [joinP] using h
  | z :: y :: r, x, h, hp => by
    unfold joinP at h
    split at h
    · simp at h; exact absurd h.symm hp
    · simpa using h
/-- behind the joining: only old neighbors, and not this pair -/
theorem joinP_adj {a b p : Int} : ∀ {row : List Int} {x y : Int}, Adj (joinP a b p row) x y → x ≠ p → y ≠ p → Adj row x y ∧ ¬ (x = a ∧ y = b)
  | [], x, y, h, _, _ => by obtain ⟨j, h1, _⟩ := h; simp [joinP] at h1
  | [z], x, y, h, _, _ => by obtain ⟨j, _, h2⟩ := h; simp [joinP] at h2
  | z :: w :: r, x, y, h, hx, hy => by
    unfold joinP at h
    split at h
    · rcases adj_cons h with ⟨h1, _⟩ | h
      · exact absurd h1.symm hx
      · obtain ⟨q1, q2⟩ := joinP_adj h hx hy
        exact ⟨adj_tail (adj_tail q1), q2⟩
    · rename_i e
      rcases adj_cons h with ⟨rfl, h2⟩ | h
      · have h3 := joinP_head h2 hy
        simp at h3
        subst h3
        exact ⟨⟨0, by simp, by simp⟩, e⟩
      · obtain ⟨q1, q2⟩ := joinP_adj h hx hy
        exact ⟨adj_tail q1, q2⟩
theorem stGo_id {n : Nat} : ∀ {k : Nat} {ps : List (Int × Int)} {row : List Int}, (∀ q ∈ ps, ¬ Adj row q.1 q.2) → stGo n k ps row = row
  | k, [], row, _ => rfl
  | k, (a, b) :: r, row, h => by
    unfold stGo
    rw [joinP_id (h (a, b) (List.mem_cons_self ..)), stGo_id fun q m => h q (List.mem_cons_of_mem _ m)]
/-- only pieces below n + k in the pair with rank k, no pair twice -/
def WFp (n : Nat) (ps : List (Int × Int)) : Prop := (∀ (k : Nat) (a b : Int), ps[k]? = some (a, b) → a < ((n : Int) + (k : Int)) ∧ b < ((n : Int) + (k : Int))) ∧ ps.Nodup
theorem rankGo_some : ∀ {ps : List (Int × Int)} {k r : Nat} {q : Int × Int}, rankGo k ps q = some r → k ≤ r ∧ ps[r - k]? = some q
  | [], k, r, q, h => by cases h
  | x :: ps, k, r, q, h => by
    unfold rankGo at h
    split at h
    · rename_i e; cases h; exact ⟨Nat.le_refl _, by simp [e]⟩
    · obtain ⟨h1, h2⟩ := rankGo_some h
      refine ⟨by omega, ?_⟩
      rw [show r - k = (r - (k + 1)) + 1 by omega]; simpa using h2
theorem rankGo_mem : ∀ {ps : List (Int × Int)} {k j : Nat} {q : Int × Int}, ps.Nodup → ps[j]? = some q → rankGo k ps q = some (k + j)
  | [], k, j, q, _, h => by simp at h
  | x :: ps, k, j, q, hn, h => by
    unfold rankGo
    cases j with
    | zero => simp at h; rw [if_pos h]; rfl
    | succ j =>
      have h' : ps[j]? = some q := by simpa using h
      have hx : x ≠ q := fun e => by
        have := (List.nodup_cons.mp hn).1
        exact this (e ▸ List.mem_of_getElem? h')
      rw [if_neg hx, rankGo_mem (List.nodup_cons.mp hn).2 h']
      congr 1; omega
/-- the lowest rank first, again and again: as far as k nothing is left -/
theorem stGo_step {n k r : Nat} {ps : List (Int × Int)} {a b : Int} {row : List Int} (hw : WFp n ps) (hk : k ≤ r) (hr : ps[r]? = some (a, b)) (hlow : ∀ j q, j < r → ps[j]? = some q → ¬ Adj row q.1 q.2) :
    stGo n k (ps.drop k) row = stGo n (r + 1) (ps.drop (r + 1)) (joinP a b ((n : Int) + (r : Int)) row) := by
  have hlt := (List.getElem?_eq_some_iff.mp hr).1
  obtain ⟨d, rfl⟩ : ∃ d, r = k + d := ⟨r - k, by omega⟩
  induction d generalizing k with
  | zero =>
    have e : ps.drop k = (a, b) :: ps.drop (k + 1) := by
      rw [List.drop_eq_getElem_cons (by omega : k < ps.length)]
      have := (List.getElem?_eq_some_iff.mp hr).2
      simp only [Nat.add_zero] at this
      rw [this]
    rw [e]; rfl
  | succ d ih =>
    have hk' : k < ps.length := by omega
    have e : ps.drop k = ps[k] :: ps.drop (k + 1) := List.drop_eq_getElem_cons hk'
    rw [e]
    have h0 := hlow k ps[k] (by omega) (List.getElem?_eq_getElem hk')
    have : stGo n k (ps[k] :: ps.drop (k + 1)) row = stGo n (k + 1) (ps.drop (k + 1)) row := by
      cases hq : ps[k] with
      | mk u v =>
        rw [hq] at h0
        show stGo n (k + 1) (ps.drop (k + 1)) (joinP u v ((n : Int) + (k : Int)) row) = _
        rw [joinP_id h0]
    rw [this]
    have := ih (k := k + 1) (by omega) (by rw [show k + 1 + d = k + (d + 1) by omega]; exact hr) (fun j q hj => hlow j q (by omega)) (by omega)
    rw [show k + (d + 1) = k + 1 + d by omega]
    exact this
def rkT : Nat → List (Int × Int) → List ((Int × Int) × Int)
  | _, [] => []
  | k, q :: r => (q, ((k : Nat) : Int)) :: rkT (k + 1) r
theorem rkT_len : ∀ (k : Nat) (ps : List (Int × Int)), (rkT k ps).length = ps.length
  | _, [] => rfl
  | k, q :: r => by simp [rkT, rkT_len (k + 1) r]
theorem tval_rk (q : Int × Int) : ∀ (k : Nat) (ps : List (Int × Int)), tval (rkT k ps) q = (rankGo k ps q).map fun r => ((r : Nat) : Int)
  | _, [] => rfl
  | k, p :: r => by
    have ih := tval_rk q (k + 1) r
    unfold tval at ih ⊢
    simp only [rkT, rankGo, List.find?_cons]
    by_cases h : p = q
    · simp [h]
    · simp only [h, decide_false, if_false]; exact ih
theorem rkT_snoc (q : Int × Int) : ∀ (k : Nat) (ps : List (Int × Int)), rkT k (ps ++ [q]) = rkT k ps ++ [(q, ((k + ps.length : Nat) : Int))]
  | k, [] => by simp [rkT]
  | k, p :: r => by
    simp only [List.cons_append, rkT, List.length_cons]
    rw [rkT_snoc q (k + 1) r]
    simp only [List.cons_append, List.cons.injEq, true_and]
    congr 3; omega
theorem rankGo_none : ∀ {ps : List (Int × Int)} {k : Nat} {q : Int × Int}, q ∉ ps → rankGo k ps q = none
  | [], k, q, _ => rfl
  | p :: r, k, q, h => by
    unfold rankGo
    rw [if_neg (fun e : p = q => h (by rw [e]; exact List.mem_cons_self ..)), rankGo_none fun m => h (List.mem_cons_of_mem _ m)]
theorem tput_rk (q : Int × Int) (k : Nat) (ps : List (Int × Int)) (h : q ∉ ps) : tput (rkT k ps) q ((k + ps.length : Nat) : Int) = rkT k (ps ++ [q]) := by
  have hn : tval (rkT k ps) q = none := by rw [tval_rk, rankGo_none h]; rfl
  have : ((rkT k ps).any fun kv => decide (kv.1 = q)) = false := by
    unfold tval at hn
    rw [Option.map_eq_none_iff, List.find?_eq_none] at hn
    rw [List.any_eq_false]
    intro x hx; exact hn x hx
  unfold tput
  rw [this, rkT_snoc]; rfl
theorem stGo_snoc {n : Nat} : ∀ {k : Nat} {ps : List (Int × Int)} {q : Int × Int} {row : List Int}, stGo n k (ps ++ [q]) row = joinP q.1 q.2 ((n : Int) + ((k + ps.length : Nat) : Int)) (stGo n k ps row)
  | k, [], (a, b), row => by simp [stGo]
  | k, (x, y) :: ps, q, row => by
    simp only [List.cons_append, stGo]
    rw [stGo_snoc]
    congr 3
    simp; omega
theorem stGo_len {n : Nat} : ∀ {k : Nat} {ps : List (Int × Int)} {row : List Int}, (stGo n k ps row).length ≤ row.length
  | k, [], row => Nat.le_refl _
  | k, (a, b) :: r, row => by
    unfold stGo
    exact Nat.le_trans stGo_len (joinP_len ..)
/-- the best pair as far as place i -/
def BestT (ps : List (Int × Int)) (row : List Int) (i : Nat) : Option (Int × Int) → Prop
  | none => ∀ j x y, j < i → row[j]? = some x → row[j + 1]? = some y → rankGo 0 ps (x, y) = none
  | some p => ∃ r, rankGo 0 ps p = some r ∧ (∃ j, j < i ∧ row[j]? = some p.1 ∧ row[j + 1]? = some p.2) ∧ ∀ j x y r', j < i → row[j]? = some x → row[j + 1]? = some y → rankGo 0 ps (x, y) = some r' → r ≤ r'
def BetterT (ps : List (Int × Int)) (q : Int × Int) (best : Option (Int × Int)) : Prop := (rankGo 0 ps q).isSome ∧ (best = none ∨ ∃ b r0 r, best = some b ∧ rankGo 0 ps q = some r0 ∧ rankGo 0 ps b = some r ∧ r0 < r)
theorem bestT_step {ps : List (Int × Int)} {row : List Int} {i : Nat} {best : Option (Int × Int)} {x y : Int} (hx : row[i]? = some x) (hy : row[i + 1]? = some y) (hb : BestT ps row i best) (best' : Option (Int × Int))
    (h : (BetterT ps (x, y) best ∧ best' = some (x, y)) ∨ (¬ BetterT ps (x, y) best ∧ best' = best)) : BestT ps row (i + 1) best' := by
  have ext : ∀ {j a b}, j < i + 1 → row[j]? = some a → row[j + 1]? = some b → j < i ∨ (a = x ∧ b = y) := by
    intro j a b hj h1 h2
    by_cases e : j = i
    · subst e; rw [hx] at h1; rw [hy] at h2; cases h1; cases h2; exact .inr ⟨rfl, rfl⟩
    · exact .inl (by omega)
  cases hr : rankGo 0 ps (x, y) with
  | none =>
    have h : best' = best := by
      rcases h with ⟨h, _⟩ | ⟨_, h⟩
      · have := h.1; rw [hr] at this; cases this
      · exact h
    subst h
    cases best' with
    | none =>
      intro j a b hj h1 h2
      rcases ext hj h1 h2 with h | ⟨rfl, rfl⟩
      · exact hb j a b h h1 h2
      · exact hr
    | some p =>
      obtain ⟨r, h1, ⟨j0, h2, h3, h4⟩, h5⟩ := hb
      refine ⟨r, h1, ⟨j0, by omega, h3, h4⟩, fun j a b r' hj q1 q2 q3 => ?_⟩
      rcases ext hj q1 q2 with h | ⟨rfl, rfl⟩
      · exact h5 j a b r' h q1 q2 q3
      · rw [hr] at q3; cases q3
  | some r0 =>
    have new : (∀ j a b r', j < i → row[j]? = some a → row[j + 1]? = some b → rankGo 0 ps (a, b) = some r' → r0 ≤ r') → BestT ps row (i + 1) (some (x, y)) := fun hlow => by
      refine ⟨r0, hr, ⟨i, by omega, hx, hy⟩, fun j a b r' hj q1 q2 q3 => ?_⟩
      rcases ext hj q1 q2 with h | ⟨rfl, rfl⟩
      · exact hlow j a b r' h q1 q2 q3
      · rw [hr] at q3; cases q3; exact Nat.le_refl _
    cases best with
    | none =>
      have h : best' = some (x, y) := by
        rcases h with ⟨_, h⟩ | ⟨h, _⟩
        · exact h
        · exact absurd ⟨by rw [hr]; rfl, .inl rfl⟩ h
      subst h
      exact new fun j a b r' hj q1 q2 q3 => by rw [hb j a b hj q1 q2] at q3; cases q3
    | some p =>
      obtain ⟨r, h1, ⟨j0, h2, h3, h4⟩, h5⟩ := hb
      by_cases hlt : r0 < r
      · have h : best' = some (x, y) := by
          rcases h with ⟨_, h⟩ | ⟨h, _⟩
          · exact h
          · exact absurd ⟨by rw [hr]; rfl, .inr ⟨p, r0, r, rfl, hr, h1, hlt⟩⟩ h
        subst h
        exact new fun j a b r' hj q1 q2 q3 => by have := h5 j a b r' hj q1 q2 q3; omega
      · have hn : ¬ BetterT ps (x, y) (some p) := by
          rintro ⟨_, h | ⟨b, r0', r', e, e1, e2, e3⟩⟩
          · cases h
          · cases e; rw [hr] at e1; rw [h1] at e2; cases e1; cases e2; exact hlt e3
        have h : best' = some p := by
          rcases h with ⟨h, _⟩ | ⟨_, h⟩
          · exact absurd h hn
          · exact h
        subst h
        refine ⟨r, h1, ⟨j0, by omega, h3, h4⟩, fun j a b r' hj q1 q2 q3 => ?_⟩
        rcases ext hj q1 q2 with h | ⟨rfl, rfl⟩
        · exact h5 j a b r' h q1 q2 q3
        · rw [hr] at q3; cases q3; omega
theorem bestT_none {ps : List (Int × Int)} {row : List Int} (hn : ps.Nodup) (h : BestT ps row (row.length - 1) none) : ∀ q ∈ ps, ¬ Adj row q.1 q.2 := by
  rintro ⟨a, b⟩ m ⟨j, h1, h2⟩
  obtain ⟨i, hi, e⟩ := List.getElem_of_mem m
  have hr := rankGo_mem (k := 0) hn (List.getElem?_eq_getElem hi)
  rw [e] at hr
  have hj := (List.getElem?_eq_some_iff.mp h2).1
  have := h j a b (by omega) h1 h2
  rw [this] at hr; cases hr
theorem bestT_some {n : Nat} {ps : List (Int × Int)} {row : List Int} {a b : Int} (hw : WFp n ps) (h : BestT ps row (row.length - 1) (some (a, b))) (k : Nat) (hk : ∀ j q, j < k → ps[j]? = some q → ¬ Adj row q.1 q.2) :
    ∃ r, rankGo 0 ps (a, b) = some r ∧ k ≤ r ∧ ps[r]? = some (a, b) ∧ Adj row a b ∧ ∀ j q, j < r → ps[j]? = some q → ¬ Adj row q.1 q.2 := by
  obtain ⟨r, h1, ⟨j0, _, h3, h4⟩, h5⟩ := h
  have hr := (rankGo_some h1).2
  rw [Nat.sub_zero] at hr
  have had : Adj row a b := ⟨j0, h3, h4⟩
  refine ⟨r, h1, ?_, hr, had, ?_⟩
  · by_cases hc : k ≤ r
    · exact hc
    · exact absurd had (hk r (a, b) (by omega) hr)
  · rintro j ⟨x, y⟩ hj hq ⟨i, q1, q2⟩
    have hrj := rankGo_mem (k := 0) hw.2 hq
    rw [Nat.zero_add] at hrj
    have hi := (List.getElem?_eq_some_iff.mp q2).1
    have := h5 i x y j (by omega) q1 q2 hrj
    omega
end DL
/-! Texts as rows of codes: plain. -/
namespace DL
open PySem PySem.Spec L2
abbrev tl (s : Str) : List Nat := s.cps.toList
theorem str_ext {a b : Str} (h : tl a = tl b) : a = b := by
  obtain ⟨⟨a⟩⟩ := a; obtain ⟨⟨b⟩⟩ := b
  exact congrArg (fun l : List Nat => (⟨⟨l⟩⟩ : Str)) h
theorem len_tl (s : Str) : s.length = (tl s).length := rfl
theorem app_tl (a b : Str) : tl (a ++ b) = tl a ++ tl b := by
  show (a.cps ++ b.cps).toList = _
  simp
theorem app_len (a b : Str) : (a ++ b).length = a.length + b.length := by rw [len_tl, app_tl, List.length_append]; rfl
theorem one_tl (c : Nat) : tl (one c) = [c] := rfl
theorem one_inj {c d : Nat} (h : one c = one d) : c = d := by
  have := congrArg tl h
  simpa [one_tl] using this
theorem signs_eq (s : Str) : signs s = (tl s).map one := rfl
theorem strIn_one (c : Nat) (s : Str) : strIn (one c) s = decide (c ∈ tl s) := StrLaws.found_one s c
theorem occ0_one {s : Str} {c : Nat} (h : c ∈ tl s) : ∃ i, occ0 s (one c) = some i ∧ (tl s)[i]? = some c := by
  have h1 := StrLaws.found_one s c
  rw [decide_eq_true h] at h1
  unfold occ0
  cases e : Builtin.Str.occurrences s (one c) 0 s.length 1 with
  | nil => rw [show (⟨#[c]⟩ : Str) = one c from rfl, e] at h1; cases h1
  | cons i r =>
    refine ⟨i, rfl, ?_⟩
    have h2 := StrLaws.occ_spec s (one c) 0 s.length 1 i (by rw [e]; exact List.mem_cons_self ..)
    exact (StrLaws.subAt_one s c i).mp h2
theorem idxOf_of {A : List Nat} (hn : A.Nodup) {i c : Nat} (h : A[i]? = some c) : i = A.idxOf c := by
  obtain ⟨hi, e⟩ := List.getElem?_eq_some_iff.mp h
  rw [← e, hn.idxOf_getElem]
theorem indexT_one {s : Str} {c : Nat} (hn : (tl s).Nodup) (h : c ∈ tl s) : indexT s (one c) = .ok (((tl s).idxOf c : Nat) : Int) := by
  obtain ⟨i, h1, h2⟩ := occ0_one h
  unfold indexT
  rw [h1, idxOf_of hn h2]; rfl
theorem join_ones (ds : List Nat) : Txt.join (Str.ofString "") (ds.map one) = ⟨ds.toArray⟩ := by
  have h := SX.join_S [] (ds.map fun c => [c])
  have e : (ds.map fun c => [c]).map SX.S = ds.map one := by rw [List.map_map]; rfl
  rw [e] at h
  have e2 : ∀ ds : List Nat, TL.joinL [] (ds.map fun c => [c]) = ds := by
    intro ds
    induction ds with
    | nil => rfl
    | cons c r ih =>
      cases r with
      | nil => rfl
      | cons d r => simp only [List.map_cons, TL.joinL, List.nil_append] at ih ⊢; rw [ih]; rfl
  rw [e2] at h
  exact h
theorem sort_ones (cs : List Nat) : sortS (cs.map one) = (cs.mergeSort fun a b => decide (a ≤ b)).map one := by
  unfold sortS
  refine (List.map_mergeSort fun a _ b _ => ?_).symm
  show decide (a ≤ b) = leS (one a) (one b)
  unfold leS
  rw [show (one a).cps.toList = [a] from rfl, show (one b).cps.toList = [b] from rfl]
  by_cases h : a ≤ b
  · have : ¬ ([b] < [a]) := by rw [List.cons_lt_cons_iff]; simp; omega
    simp [h, this]
  · have : [b] < [a] := by rw [List.cons_lt_cons_iff]; left; omega
    simp [h, this]
theorem sorted_asc {cs : List Nat} (hn : cs.Nodup) : (cs.mergeSort fun a b => decide (a ≤ b)).Pairwise (· < ·) := by
  have h1 := List.pairwise_mergeSort (le := fun a b : Nat => decide (a ≤ b)) (fun a b c h1 h2 => by simp at *; omega) (fun a b => by simp; omega) cs
  have h2 : (cs.mergeSort fun a b => decide (a ≤ b)).Nodup := (List.mergeSort_perm cs _).nodup_iff.mpr hn
  refine (h1.and h2).imp fun {a b} h => ?_
  have := of_decide_eq_true h.1
  have := h.2
  omega
/-- an alphabet -/
structure Alph (s : Str) : Prop where
  pos : 1 ≤ s.length
  le : s.length ≤ 30
  asc : (tl s).Pairwise (· < ·)
  rng : ∀ c ∈ tl s, 32 ≤ c ∧ c ≤ 126
theorem Alph.nodup {s : Str} (h : Alph s) : (tl s).Nodup := h.asc.imp fun h => Nat.ne_of_lt h
theorem Alph.of_sort {cs : List Nat} (hn : cs.Nodup) (h0 : cs ≠ []) (hl : cs.length ≤ 30) (hr : ∀ c ∈ cs, 32 ≤ c ∧ c ≤ 126) : Alph ⟨(cs.mergeSort fun a b => decide (a ≤ b)).toArray⟩ := by
  have hp := List.mergeSort_perm cs fun a b => decide (a ≤ b)
  have hlen := hp.length_eq
  refine ⟨?_, ?_, sorted_asc hn, fun c m => hr c (hp.mem_iff.mp m)⟩
  · show 1 ≤ (cs.mergeSort fun a b => decide (a ≤ b)).length
    have := List.length_pos_iff.mpr h0
    omega
  · show (cs.mergeSort fun a b => decide (a ≤ b)).length ≤ 30
    omega
theorem joinT_ones {ds : List Nat} (h : ds.length ≤ 1000) : joinT (Str.ofString "") (ds.map one) = .ok ⟨ds.toArray⟩ := by
  unfold joinT
  rw [join_ones]
  refine TR.guard_of (decide_eq_true ?_) _
  have e : (Str.ofString "").length = 0 := by decide
  have e2 : ((ds.map one).map (·.length)).sum = ds.length := by
    rw [List.map_map]
    clear h
    induction ds with
    | nil => rfl
    | cons c r ih => simp only [List.map_cons, List.sum_cons, List.length_cons, ih]; show 1 + r.length = _; omega
  rw [e, e2]
  simp; omega
theorem sortT_ones {cs : List Nat} (h : cs.length < 64) : sortT (cs.map one) = .ok ((cs.mergeSort fun a b => decide (a ≤ b)).map one) := by
  unfold sortT
  rw [sort_ones]
  exact TR.guard_of (decide_eq_true (by simpa using h)) _
theorem contains_one {cs : List Nat} {c : Nat} : (cs.map one).contains (one c) = decide (c ∈ cs) := by
  rw [Bool.eq_iff_iff]
  simp only [List.contains_iff_mem, List.mem_map, decide_eq_true_eq]
  constructor
  · rintro ⟨a, h, e⟩; rw [← one_inj e]; exact h
  · intro h; exact ⟨c, h, rfl⟩
/-! going through a list for the first that is so -/
theorem forT_any {α R L : Type} {step : α → Unit → TR (Fo Unit Unit R)} {p : α → Bool} {v : R} : ∀ {xs : List α}, (∀ x ∈ xs, step x () = if p x = true then .ok (.rt v) else .ok (.nx ())) → forT (L := L) step xs () = if xs.any p = true then .ok (.rt v) else .ok (.nx ())
  | [], _ => rfl
  | x :: xs, h => by
    have ih := forT_any (L := L) (xs := xs) fun y m => h y (List.mem_cons_of_mem _ m)
    rw [forT_cons, h x (List.mem_cons_self ..)]
    by_cases hp : p x = true
    · simp [hp]
    · simp only [hp, Bool.false_eq_true, if_false, List.any_cons, Bool.false_or]
      rw [ih]
theorem rangeI_mem {lo : Int} {n : Nat} {x : Int} (h : x ∈ rangeI lo n) : ∃ i : Nat, i < n ∧ x = lo + (i : Int) := by
  unfold rangeI at h
  obtain ⟨i, hi, rfl⟩ := List.mem_map.mp h
  exact ⟨i, List.mem_range.mp hi, rfl⟩
theorem rangeI_get {lo : Int} {n i : Nat} {x : Int} (h : (rangeI lo n)[i]? = some x) : i < n ∧ x = lo + (i : Int) := by
  have hi : i < n := by
    have := (List.getElem?_eq_some_iff.mp h).1
    simpa [rangeI] using this
  refine ⟨hi, ?_⟩
  simp [rangeI, hi] at h; omega
@[simp] theorem rangeI_len {lo : Int} {n : Nat} : (rangeI lo n).length = n := by simp [rangeI]
/-- is_alphabet -/
def ascB : List Nat → Bool
  | a :: b :: r => decide (a < b) && ascB (b :: r)
  | _ => true
def isA (s : Str) : Bool := (decide (1 ≤ s.length) && decide (s.length ≤ 30)) && ((tl s).all fun c => decide (32 ≤ c) && decide (c ≤ 126)) && ascB (tl s)
theorem ascB_iff : ∀ l : List Nat, ascB l = true ↔ ∀ i a b, l[i]? = some a → l[i + 1]? = some b → a < b
  | [] => ⟨fun _ i a b h => by simp at h, fun _ => rfl⟩
  | [x] => ⟨fun _ i a b _ h => by simp at h, fun _ => rfl⟩
  | x :: y :: r => by
    have ih := ascB_iff (y :: r)
    unfold ascB
    rw [Bool.and_eq_true, ih]
    constructor
    · rintro ⟨h1, h2⟩ i a b ha hb
      cases i with
      | zero => simp at ha hb; subst ha hb; exact of_decide_eq_true h1
      | succ i => exact h2 i a b (by simpa using ha) (by simpa using hb)
    · intro h
      exact ⟨decide_eq_true (h 0 x y rfl rfl), fun i a b ha hb => h (i + 1) a b (by simpa using ha) (by simpa using hb)⟩
theorem Alph.isA {s : Str} (h : Alph s) : isA s = true := by
  unfold DL.isA
  rw [Bool.and_eq_true, Bool.and_eq_true, Bool.and_eq_true]
  refine ⟨⟨⟨decide_eq_true h.pos, decide_eq_true h.le⟩, List.all_eq_true.mpr fun c m => ?_⟩, (ascB_iff _).mpr fun i a b ha hb => ?_⟩
  · have := h.rng c m; simp [this]
  · obtain ⟨hi, rfl⟩ := List.getElem?_eq_some_iff.mp ha
    obtain ⟨hj, rfl⟩ := List.getElem?_eq_some_iff.mp hb
    exact List.pairwise_iff_getElem.mp h.asc i (i + 1) hi hj (by omega)
end DL
namespace DL
open PySem PySem.Spec L2

def top (i : Nat) : Stmt := PySem.Challenge.pw_piecehouse_k23_proper_lists.main.body.getD i (.Pass ⟨0, 0, 0, 0⟩)
def tab : CT := [("Joins", ["alphabet", "pairs", "texts", "ranks", "numbers", "longest"])]
abbrev s_law_alphabet : Stmt := top 25
abbrev s_lowest_pair : Stmt := top 19
abbrev s_put_together : Stmt := top 18
abbrev s_cut_row : Stmt := top 20
abbrev s_is_between : Stmt := top 15
abbrev s_Joins_is_proper : Stmt := inClass (top 21) 2
abbrev s_NotProper_init : Stmt := inClass (top 4) 0
abbrev s_Joins_take : Stmt := inClass (top 21) 1
abbrev s_InvalidAlphabet_init : Stmt := inClass (top 3) 0
abbrev s_is_alphabet : Stmt := top 16
abbrev s_checked_alphabet : Stmt := top 17
abbrev s_Joins_init : Stmt := inClass (top 21) 0
abbrev s_law_ask : Stmt := top 32
abbrev s_law_letters : Stmt := top 28
abbrev s_law_join_all : Stmt := top 26
abbrev s_law_staged : Stmt := top 27
abbrev s_law_is_proper : Stmt := top 29
abbrev s_law_due : Stmt := top 31
abbrev s_law_numbers : Stmt := top 23
abbrev s_law_pairs : Stmt := top 30
abbrev s_law_same : Stmt := top 24
abbrev s_law : Stmt := top 33
def it : IT := [((.o "InvalidAlphabet", .o "InvalidAlphabet"), true), ((.o "NotProper", .o "InvalidAlphabet"), false), ((.o "InvalidAlphabet", .o "InvalidModel"), false), ((.o "NotProper", .o "InvalidModel"), false), ((.o "InvalidAlphabet", .o "InvalidNumber"), false), ((.o "NotProper", .o "InvalidNumber"), false), ((.o "InvalidAlphabet", .o "InvalidText"), false), ((.o "NotProper", .o "InvalidText"), false), ((.o "InvalidAlphabet", .o "NoChance"), false), ((.o "NotProper", .o "NoChance"), false), ((.o "InvalidAlphabet", .o "NoPiece"), false), ((.o "NotProper", .o "NoPiece"), false), ((.o "InvalidAlphabet", .o "NotCut"), false), ((.o "NotProper", .o "NotCut"), false), ((.o "InvalidAlphabet", .o "NotProper"), false), ((.o "NotProper", .o "NotProper"), true), ((.o "InvalidAlphabet", .o "UnknownSign"), false), ((.o "NotProper", .o "UnknownSign"), false), ((.o "InvalidAlphabet", .b "ValueError"), true), ((.o "NotProper", .b "ValueError"), true), ((.b "NoneType", .b "bool"), false), ((.b "bool", .b "bool"), true), ((.b "int", .b "bool"), false), ((.b "str", .b "bool"), false), ((.b "tuple", .b "bool"), false), ((.b "NoneType", .b "int"), false), ((.b "bool", .b "int"), true), ((.b "int", .b "int"), true), ((.b "str", .b "int"), false), ((.b "tuple", .b "int"), false), ((.b "NoneType", .b "str"), false), ((.b "bool", .b "str"), false), ((.b "int", .b "str"), false), ((.b "str", .b "str"), true), ((.b "tuple", .b "str"), false), ((.b "NoneType", .b "tuple"), false), ((.b "bool", .b "tuple"), false), ((.b "int", .b "tuple"), false), ((.b "str", .b "tuple"), false), ((.b "tuple", .b "tuple"), true)]
def ito : List String := []
def xm_law_ask : XM := [("InvalidAlphabet", true), ("NotProper", true)]
def exfs : List String := ["alphabet", "rank"]
theorem exf_law_ask_alphabet {c0 : String} (_ : xm_law_ask.lookup c0 = some true) : "alphabet" ∈ exfs := by decide
theorem exf_law_ask_rank {c0 : String} (_ : xm_law_ask.lookup c0 = some true) : "rank" ∈ exfs := by decide
structure Txt (K : PySem.W.Frag) (mg : Str → Option Value) (cl : String → Addr) (fa : Nat → Addr) (fd : Nat → FuncData) : Prop where
  F_law_alphabet : Fun K "_law_alphabet" "_law_alphabet" s_law_alphabet (fa 0) (fd 0)
  b_law_alphabet : Binds K (fd 0) ["numbers", "k", "many"] []
  g_law_alphabet : mg "_law_alphabet" = some (.ref (fa 0))
  F_lowest_pair : Fun K "lowest_pair" "lowest_pair" s_lowest_pair (fa 1) (fd 1)
  b_lowest_pair : Binds K (fd 1) ["ranks", "row"] []
  g_lowest_pair : mg "lowest_pair" = some (.ref (fa 1))
  F_put_together : Fun K "put_together" "put_together" s_put_together (fa 2) (fd 2)
  b_put_together : Binds K (fd 2) ["row", "pair", "piece"] []
  g_put_together : mg "put_together" = some (.ref (fa 2))
  F_cut_row : Fun K "cut_row" "cut_row" s_cut_row (fa 3) (fd 3)
  b_cut_row : Binds K (fd 3) ["ranks", "letters", "row"] []
  g_cut_row : mg "cut_row" = some (.ref (fa 3))
  F_is_between : Fun K "is_between" "is_between" s_is_between (fa 4) (fd 4)
  b_is_between : Binds K (fd 4) ["value", "least", "most"] []
  g_is_between : mg "is_between" = some (.ref (fa 4))
  F_Joins_is_proper : Fun K "is_proper" "Joins.is_proper" s_Joins_is_proper (fa 5) (fd 5)
  b_Joins_is_proper : Binds K (fd 5) ["self", "pair"] []
  m_Joins_is_proper : Meth K (cl "Joins") (Str.ofString "is_proper") (fa 5)
  F_NotProper_init : Fun K "__init__" "NotProper.__init__" s_NotProper_init (fa 6) (fd 6)
  b_NotProper_init : Binds K (fd 6) ["self", "rank"] []
  i_NotProper_init : PySem.W.findIn K (.ref (cl "NotProper")) "__init__" = some (some (.ref (fa 6)))
  t_NotProper_init : PySem.W.typeIn K (.ref (fa 6)) = some (.type "function")
  F_Joins_take : Fun K "take" "Joins.take" s_Joins_take (fa 7) (fd 7)
  b_Joins_take : Binds K (fd 7) ["self", "pair"] []
  m_Joins_take : Meth K (cl "Joins") (Str.ofString "take") (fa 7)
  F_InvalidAlphabet_init : Fun K "__init__" "InvalidAlphabet.__init__" s_InvalidAlphabet_init (fa 8) (fd 8)
  b_InvalidAlphabet_init : Binds K (fd 8) ["self", "alphabet"] []
  i_InvalidAlphabet_init : PySem.W.findIn K (.ref (cl "InvalidAlphabet")) "__init__" = some (some (.ref (fa 8)))
  t_InvalidAlphabet_init : PySem.W.typeIn K (.ref (fa 8)) = some (.type "function")
  F_is_alphabet : Fun K "is_alphabet" "is_alphabet" s_is_alphabet (fa 9) (fd 9)
  b_is_alphabet : Binds K (fd 9) ["alphabet"] []
  g_is_alphabet : mg "is_alphabet" = some (.ref (fa 9))
  F_checked_alphabet : Fun K "checked_alphabet" "checked_alphabet" s_checked_alphabet (fa 10) (fd 10)
  b_checked_alphabet : Binds K (fd 10) ["alphabet"] []
  g_checked_alphabet : mg "checked_alphabet" = some (.ref (fa 10))
  F_Joins_init : Fun K "__init__" "Joins.__init__" s_Joins_init (fa 11) (fd 11)
  b_Joins_init : Binds K (fd 11) ["self", "alphabet", "pairs"] []
  F_law_ask : Fun K "_law_ask" "_law_ask" s_law_ask (fa 12) (fd 12)
  b_law_ask : Binds K (fd 12) ["alphabet", "pairs"] []
  g_law_ask : mg "_law_ask" = some (.ref (fa 12))
  F_law_letters : Fun K "_law_letters" "_law_letters" s_law_letters (fa 13) (fd 13)
  b_law_letters : Binds K (fd 13) ["alphabet", "text"] []
  g_law_letters : mg "_law_letters" = some (.ref (fa 13))
  F_law_join_all : Fun K "_law_join_all" "_law_join_all" s_law_join_all (fa 14) (fd 14)
  b_law_join_all : Binds K (fd 14) ["row", "pair", "made"] []
  g_law_join_all : mg "_law_join_all" = some (.ref (fa 14))
  F_law_staged : Fun K "_law_staged" "_law_staged" s_law_staged (fa 15) (fd 15)
  b_law_staged : Binds K (fd 15) ["many", "pairs", "row"] []
  g_law_staged : mg "_law_staged" = some (.ref (fa 15))
  F_law_is_proper : Fun K "_law_is_proper" "_law_is_proper" s_law_is_proper (fa 16) (fd 16)
  b_law_is_proper : Binds K (fd 16) ["alphabet", "texts", "pairs", "pair"] []
  g_law_is_proper : mg "_law_is_proper" = some (.ref (fa 16))
  F_law_due : Fun K "_law_due" "_law_due" s_law_due (fa 17) (fd 17)
  b_law_due : Binds K (fd 17) ["alphabet", "pairs"] []
  g_law_due : mg "_law_due" = some (.ref (fa 17))
  F_law_numbers : Fun K "_law_numbers" "_law_numbers" s_law_numbers (fa 18) (fd 18)
  b_law_numbers : Binds K (fd 18) ["cell", "at", "many"] []
  g_law_numbers : mg "_law_numbers" = some (.ref (fa 18))
  F_law_pairs : Fun K "_law_pairs" "_law_pairs" s_law_pairs (fa 19) (fd 19)
  b_law_pairs : Binds K (fd 19) ["numbers", "alphabet"] []
  g_law_pairs : mg "_law_pairs" = some (.ref (fa 19))
  F_law_same : Fun K "_law_same" "_law_same" s_law_same (fa 20) (fd 20)
  b_law_same : Binds K (fd 20) ["actual", "expected"] []
  g_law_same : mg "_law_same" = some (.ref (fa 20))
  F_law : Fun K "law" "law" s_law (fa 21) (fd 21)
  b_law : Binds K (fd 21) ["script"] []
  g_law : mg "law" = some (.ref (fa 21))
  g_InvalidAlphabet : mg "InvalidAlphabet" = some (.ref (cl "InvalidAlphabet"))
  g_InvalidModel : mg "InvalidModel" = some (.ref (cl "InvalidModel"))
  g_InvalidNumber : mg "InvalidNumber" = some (.ref (cl "InvalidNumber"))
  g_InvalidText : mg "InvalidText" = some (.ref (cl "InvalidText"))
  g_JoinError : mg "JoinError" = some (.ref (cl "JoinError"))
  g_Joins : mg "Joins" = some (.ref (cl "Joins"))
  g_NoChance : mg "NoChance" = some (.ref (cl "NoChance"))
  g_NoPiece : mg "NoPiece" = some (.ref (cl "NoPiece"))
  g_NotCut : mg "NotCut" = some (.ref (cl "NotCut"))
  g_NotProper : mg "NotProper" = some (.ref (cl "NotProper"))
  g_UnknownSign : mg "UnknownSign" = some (.ref (cl "UnknownSign"))
  c_Joins : Cls K (cl "Joins")
  k_Joins : Mk K (cl "Joins") (fa 11)
  tab : CTOk K cl tab
  it : ITOk K cl it ito
  e_InvalidAlphabet : ExK K (cl "InvalidAlphabet") ["alphabet"]
  e_NotProper : ExK K (cl "NotProper") ["rank"]
  xk_law_ask : ∀ e ∈ xm_law_ask, PySem.W.exmOne K (.ref (cl e.1)) (.ref (cl "JoinError")) = some e.2
  xfc : ∀ (c : String), xm_law_ask.lookup c = some true → XfC K (cl c)
  xfn : ∀ (c : String), xm_law_ask.lookup c = some true → ∀ f ∈ exfs, PySem.W.findIn K (.ref (cl c)) (Str.ofString f) = some none
  exi : ∀ (c : String), xm_law_ask.lookup c = some true → ExI K (cl c)
  c_LONGEST_PIECE : ∃ t, mg "LONGEST_PIECE" = some (.int 40 t)
  c_MOST_LETTERS : ∃ t, mg "MOST_LETTERS" = some (.int 30 t)
  n_ValueError : mg "ValueError" = none
  n_abs : mg "abs" = none
  n_bool : mg "bool" = none
  n_enumerate : mg "enumerate" = none
  n_int : mg "int" = none
  n_isinstance : mg "isinstance" = none
  n_len : mg "len" = none
  n_list : mg "list" = none
  n_max : mg "max" = none
  n_min : mg "min" = none
  n_range : mg "range" = none
  n_sorted : mg "sorted" = none
  n_str : mg "str" = none
  n_tuple : mg "tuple" = none
abbrev fuel : Nat := 8
noncomputable def l0_law_alphabet : M Fl := (mSeq (mSet 6 (m2 gSub1 (mNameF 3) (m2 gMod (mCall gInt (mCons (m2 gSub1 (mNameF 0) (m2 gAdd (mNameF 1) (mNameF 5))) mNil)) (mCall gLen (mCons (mNameF 3) mNil)))))
    (mIfS (mBool (m2 (gInD true) (mNameF 6) (mName 4)))
    (mDrop (mAppend tab (.s 4) (mCons (mNameF 6) mNil)))
    mNx))
noncomputable def m_law_alphabet : M Fl := (mSeq (mSet 3 (mC (.str (Str.ofString " !\"#$&'()*+,-./0123456789:;<=>?@ABCDEFGHIJKLMNOPQRSTUVWXYZ[\\]^_"))))
    (mSeq (mSet 3 (mFrz (m2 gAdd (mNameF 3) (mC (.str (Str.ofString "`abcdefghijklmnopqrstuvwxyz{|}~"))))))
    (mSeq (mSet 4 (mLst mNil))
    (mSeq (mFor (mRange1 (mCons (mNameF 2) mNil)) (tgN 5)
    l0_law_alphabet)
    (mRet (mMeth "str" gJoin (mC (.str (Str.ofString ""))) (mCons (mCall gSorted (mCons (mName 4) mNil)) mNil)))))))
noncomputable def r_law_alphabet : List DO → Rf := runBody 7 [] m_law_alphabet
noncomputable def l0_lowest_pair : M Fl := (mSeq (mSet 4 (mTup (mCons (m2 gSub1 (mNameF 1) (mNameF 3)) (mCons (m2 gSub1 (mNameF 1) (m2 gAdd (mNameF 3) (mC (.int 1)))) mNil))))
    (mIfS (mAndT (mBool (m2 (gInD false) (mNameF 4) (mNameF 0))) (mOrT (mBool (m2 gIsN (mNameF 2) (mC .non))) (mBool (m2 gLt (m2 gSub1 (mNameF 0) (mNameF 4)) (m2 gSub1 (mNameF 0) (mNameF 2))))))
    (mSet 2 (mNameF 4))
    mNx))
noncomputable def m_lowest_pair : M Fl := (mSeq (mSet 2 (mC .non))
    (mSeq (mFor (mRange1 (mCons (m2 gSub (mCall gLen (mCons (mNameF 1) mNil)) (mC (.int 1))) mNil)) (tgN 3)
    l0_lowest_pair)
    (mRet (mNameF 2))))
noncomputable def r_lowest_pair : List DO → Rf := runBody 5 [] m_lowest_pair
noncomputable def t0_put_together : M Bool := (mBool (m2 gLt (mNameF 4) (mCall gLen (mCons (mNameF 0) mNil))))
noncomputable def l1_put_together : M Fl := (mIfS (mAndT (mBool (m2 gLt (m2 gAdd (mNameF 4) (mC (.int 1))) (mCall gLen (mCons (mNameF 0) mNil)))) (mBool (m2 gEq (mTup (mCons (m2 gSub1 (mNameF 0) (mNameF 4)) (mCons (m2 gSub1 (mNameF 0) (m2 gAdd (mNameF 4) (mC (.int 1)))) mNil))) (mNameF 1))))
    (mSeq (mDrop (mAppend tab (.s 3) (mCons (mNameF 2) mNil)))
    (mSet 4 (m2 gAddF (mNameF 4) (mC (.int 2)))))
    (mSeq (mDrop (mAppend tab (.s 3) (mCons (m2 gSub1 (mNameF 0) (mNameF 4)) mNil)))
    (mSet 4 (m2 gAddF (mNameF 4) (mC (.int 1))))))
noncomputable def m_put_together : M Fl := (mSeq (mSet 3 (mLst mNil))
    (mSeq (mSet 4 (mC (.int 0)))
    (mSeq (mWhile t0_put_together
    l1_put_together)
    (mRet (mCall gTuple (mCons (mName 3) mNil))))))
noncomputable def r_put_together : List DO → Rf := runBody 5 [] m_put_together
noncomputable def t0_cut_row : M Bool := (mBool (m2 gIsNot (mNameF 3) (mC .non)))
noncomputable def l1_cut_row : M Fl := (mSeq (mSet 2 (mFrz (mCallB r_put_together (mCons (mNameF 2) (mCons (mNameF 3) (mCons (m2 gAdd (mNameF 1) (m2 gSub1 (mNameF 0) (mNameF 3))) mNil))))))
    (mSet 3 (mFrz (mCallB r_lowest_pair (mCons (mNameF 0) (mCons (mNameF 2) mNil))))))
noncomputable def m_cut_row : M Fl := (mSeq (mSet 3 (mFrz (mCallB r_lowest_pair (mCons (mNameF 0) (mCons (mNameF 2) mNil)))))
    (mSeq (mWhile t0_cut_row
    l1_cut_row)
    (mRet (mNameF 2))))
noncomputable def r_cut_row : List DO → Rf := runBody 4 [] m_cut_row
noncomputable def m_is_between : M Fl := (mRet (mAndV (mCall (gIsi it ito) (mCons (mNameF 0) (mCons (mC (.ty "int")) mNil))) (mAndV (mNotV (mCall (gIsi it ito) (mCons (mNameF 0) (mCons (mC (.ty "bool")) mNil)))) (m3 gLe gLe (mNameF 1) (mNameF 0) (mNameF 2)))))
noncomputable def r_is_between : List DO → Rf := runBody 3 [] m_is_between
noncomputable def m_Joins_is_proper : M Fl := (mSeq (mUnp (tgT 2 (tgCons (tgN 5) (tgCons (tgN 6) tgNil))) (mNameF 1))
    (mSeq (mSet 2 (m2 gSub (mCall gLen (mCons (mFld tab "texts" (mNameF 0)) mNil)) (mC (.int 1))))
    (mSeq (mIfS (mOrT (mNotT (mTru (mCallB r_is_between (mCons (mNameF 5) (mCons (mC (.int 0)) (mCons (mNameF 2) mNil)))))) (mNotT (mTru (mCallB r_is_between (mCons (mNameF 6) (mCons (mC (.int 0)) (mCons (mNameF 2) mNil)))))))
    (mRet (mC (.bl false)))
    mNx)
    (mSeq (mSet 3 (mFrz (m2 gAdd (m2 gSub1 (mFld tab "texts" (mNameF 0)) (mNameF 5)) (m2 gSub1 (mFld tab "texts" (mNameF 0)) (mNameF 6)))))
    (mSeq (mIfS (mBool (m2 gGt (mCall gLen (mCons (mNameF 3) mNil)) (mC (.int 40))))
    (mRet (mC (.bl false)))
    mNx)
    (mSeq (mSet 4 (mCall gTuple (mCons (mLc [7] (mItems (mNameF 3)) (tgN 7) (M.ret true) (m2 gSub1 (mFld tab "numbers" (mNameF 0)) (mNameF 7))) mNil)))
    (mRet (m2 gEq (mCallB r_cut_row (mCons (mFld tab "ranks" (mNameF 0)) (mCons (mCall gLen (mCons (mFld tab "alphabet" (mNameF 0)) mNil)) (mCons (mNameF 4) mNil)))) (mNameF 1)))))))))
noncomputable def r_Joins_is_proper : List DO → Rf := runBody 8 [] m_Joins_is_proper
noncomputable def m_Joins_take : M Fl := (mSeq (mSet 2 (mCall gLen (mCons (mFld tab "pairs" (mName 0)) mNil)))
    (mSeq (mIfS (mNotT (mTru (mMethB "Joins" "is_proper" r_Joins_is_proper (mName 0) (mCons (mNameF 1) mNil))))
    (mRaise "NotProper" ["rank"] (mCons (mNameF 2) mNil))
    mNx)
    (mSeq (mSet 3 (mFrz (m2 gAdd (m2 gSub1 (mFld tab "texts" (mName 0)) (m2 gSub1 (mNameF 1) (mC (.int 0)))) (m2 gSub1 (mFld tab "texts" (mName 0)) (m2 gSub1 (mNameF 1) (mC (.int 1)))))))
    (mSeq (mFSet tab 0 "pairs" (m2 gAdd (mFld tab "pairs" (mName 0)) (mTup (mCons (mNameF 1) mNil))))
    (mSeq (mPut tab (.f 0 "numbers") (mNameF 3) (mCall gLen (mCons (mFld tab "texts" (mName 0)) mNil)))
    (mSeq (mDrop (mAppend tab (.f 0 "texts") (mCons (mNameF 3) mNil)))
    (mSeq (mPut tab (.f 0 "ranks") (mNameF 1) (mNameF 2))
    (mFSet tab 0 "longest" (mCall gMax2 (mCons (mFld tab "longest" (mName 0)) (mCons (mCall gLen (mCons (mNameF 3) mNil)) mNil)))))))))))
noncomputable def r_Joins_take : List DO → Rf := runBody 4 [0] m_Joins_take
noncomputable def l0_is_alphabet : M Fl := (mIfS (mNotT (mBool (m3 gLe gLe (mC (.str (Str.ofString " "))) (mNameF 1) (mC (.str (Str.ofString "~"))))))
    (mRet (mC (.bl false)))
    mNx)
noncomputable def l1_is_alphabet : M Fl := (mIfS (mBool (m2 gGe (m2 gSub1 (mNameF 0) (m2 gSub (mNameF 2) (mC (.int 1)))) (m2 gSub1 (mNameF 0) (mNameF 2))))
    (mRet (mC (.bl false)))
    mNx)
noncomputable def m_is_alphabet : M Fl := (mSeq (mIfS (mNotT (mBool (m3 gLe gLe (mC (.int 1)) (mCall gLen (mCons (mNameF 0) mNil)) (mC (.int 30)))))
    (mRet (mC (.bl false)))
    mNx)
    (mSeq (mFor (mItems (mNameF 0)) (tgN 1)
    l0_is_alphabet)
    (mSeq (mFor (mRange2 (mCons (mC (.int 1)) (mCons (mCall gLen (mCons (mNameF 0) mNil)) mNil))) (tgN 2)
    l1_is_alphabet)
    (mRet (mC (.bl true))))))
noncomputable def r_is_alphabet : List DO → Rf := runBody 3 [] m_is_alphabet
noncomputable def m_checked_alphabet : M Fl := (mSeq (mIfS (mNotT (mTru (mCallB r_is_alphabet (mCons (mNameF 0) mNil))))
    (mRaise "InvalidAlphabet" ["alphabet"] (mCons (mNameF 0) mNil))
    mNx)
    (mRet (mNameF 0)))
noncomputable def r_checked_alphabet : List DO → Rf := runBody 1 [] m_checked_alphabet
noncomputable def l0_Joins_init : M Fl := (mDrop (mMethL "Joins" "take" r_Joins_take [none] 0 (mCons (mCall gTuple (mCons (mNameF 3) mNil)) mNil)))
noncomputable def m_Joins_init : M Fl := (mSeq (mFSet tab 0 "alphabet" (mCallB r_checked_alphabet (mCons (mNameF 1) mNil)))
    (mSeq (mFSet tab 0 "pairs" (mTup mNil))
    (mSeq (mFSet tab 0 "texts" (mCall gList (mCons (mNameF 1) mNil)))
    (mSeq (mFSet tab 0 "ranks" (M.ret (.dit [], .lst .no)))
    (mSeq (mFSet tab 0 "numbers" (mDc [4, 5] (mEnum (mCons (mNameF 1) mNil)) (tgT 2 (tgCons (tgN 4) (tgCons (tgN 5) tgNil))) (M.ret true) (mNameF 5) (mNameF 4)))
    (mSeq (mFSet tab 0 "longest" (mC (.int 1)))
    (mFor (mItems (mNameF 2)) (tgN 3)
    l0_Joins_init)))))))
noncomputable def r_Joins_init : List DO → Rf := runBody 6 [0] m_Joins_init
noncomputable def m_law_ask : M Fl := (mSeq (mSet 2 (mLst mNil))
    (mSeq (mTry 3 xm_law_ask (mDrop (mAppend tab (.s 2) (mCons (mTup (mCons (mC (.str (Str.ofString ""))) (mCons (mChk (mFld tab "pairs" (mMake "Joins" r_Joins_init [none, none] (mCons (mNameF 0) (mCons (mNameF 1) mNil))))) mNil))) mNil)))
    (fun c0 fs0 => (mSeq (mIfS (mTru (mIsX it c0 (mC (.cls "InvalidAlphabet"))))
    (mDrop (mAppend tab (.s 2) (mCons (mTup (mCons (mC (.str (Str.ofString "InvalidAlphabet"))) (mCons (mXf fs0 "alphabet") mNil))) mNil)))
    mNx)
    (mSeq (mIfS (mTru (mIsX it c0 (mC (.cls "NotProper"))))
    (mDrop (mAppend tab (.s 2) (mCons (mTup (mCons (mC (.str (Str.ofString "NotProper"))) (mCons (mXf fs0 "rank") mNil))) mNil)))
    mNx)
    (mSeq (mIfS (mTru (mIsX it c0 (mTup (mCons (mC (.cls "InvalidModel")) (mCons (mC (.cls "InvalidNumber")) (mCons (mC (.cls "InvalidText")) (mCons (mC (.cls "NoChance")) (mCons (mC (.cls "NoPiece")) (mCons (mC (.cls "NotCut")) (mCons (mC (.cls "UnknownSign")) mNil))))))))))
    (mDrop (mAppend tab (.s 2) (mCons (mTup (mCons (mC (.str (Str.ofString "other"))) (mCons (mC (.str (Str.ofString ""))) mNil))) mNil)))
    mNx)
    (mIfS (mNotT (mTru (mIsX it c0 (mC (.ty "ValueError")))))
    (mDrop (mAppend tab (.s 2) (mCons (mTup (mCons (mC (.str (Str.ofString "other"))) (mCons (mC (.str (Str.ofString ""))) mNil))) mNil)))
    mNx))))))
    (mSeq (mIfS (mBool (m2 gEq (mCall gLen (mCons (mName 2) mNil)) (mC (.int 1))))
    (mRet (m2 gSub1 (mName 2) (mC (.int 0))))
    mNx)
    (mRet (mTup (mCons (mC (.str (Str.ofString "other"))) (mCons (mC (.str (Str.ofString ""))) mNil)))))))
noncomputable def r_law_ask : List DO → Rf := runBody 4 [] m_law_ask
noncomputable def m_law_letters : M Fl := (mRet (mLc [2] (mItems (mNameF 1)) (tgN 2) (M.ret true) (mMeth "str" gSIdx (mNameF 0) (mCons (mNameF 2) mNil))))
noncomputable def r_law_letters : List DO → Rf := runBody 3 [] m_law_letters
noncomputable def l0_law_join_all : M Fl := (mIfS (mTru (mNameF 4))
    (mSet 4 (mC (.bl false)))
    (mIfS (mAndT (mBool (m2 gLt (m2 gAdd (mNameF 5) (mC (.int 1))) (mCall gLen (mCons (mNameF 0) mNil)))) (mBool (m2 gEq (mTup (mCons (m2 gSub1 (mNameF 0) (mNameF 5)) (mCons (m2 gSub1 (mNameF 0) (m2 gAdd (mNameF 5) (mC (.int 1)))) mNil))) (mNameF 1))))
    (mSeq (mDrop (mAppend tab (.s 3) (mCons (mNameF 2) mNil)))
    (mSet 4 (mC (.bl true))))
    (mDrop (mAppend tab (.s 3) (mCons (m2 gSub1 (mNameF 0) (mNameF 5)) mNil)))))
noncomputable def m_law_join_all : M Fl := (mSeq (mSet 3 (mLst mNil))
    (mSeq (mSet 4 (mC (.bl false)))
    (mSeq (mFor (mRange1 (mCons (mCall gLen (mCons (mNameF 0) mNil)) mNil)) (tgN 5)
    l0_law_join_all)
    (mRet (mTake 3)))))
noncomputable def r_law_join_all : List DO → Rf := runBody 6 [] m_law_join_all
noncomputable def l0_law_staged : M Fl := (mSet 2 (mFrz (mCallB r_law_join_all (mCons (mNameF 2) (mCons (m2 gSub1 (mNameF 1) (mNameF 3)) (mCons (m2 gAdd (mNameF 0) (mNameF 3)) mNil))))))
noncomputable def m_law_staged : M Fl := (mSeq (mFor (mRange1 (mCons (mCall gLen (mCons (mNameF 1) mNil)) mNil)) (tgN 3)
    l0_law_staged)
    (mRet (mNameF 2)))
noncomputable def r_law_staged : List DO → Rf := runBody 4 [] m_law_staged
noncomputable def l0_law_is_proper : M Fl := (mIfS (mNotT (mBool (m3 gLe gLt (mC (.int 0)) (mNameF 4) (mCall gLen (mCons (mNameF 1) mNil)))))
    (mRet (mC (.bl false)))
    mNx)
noncomputable def m_law_is_proper : M Fl := (mSeq (mFor (mItems (mNameF 3)) (tgN 4)
    l0_law_is_proper)
    (mSeq (mSet 5 (mFrz (m2 gAdd (m2 gSub1 (mNameF 1) (m2 gSub1 (mNameF 3) (mC (.int 0)))) (m2 gSub1 (mNameF 1) (m2 gSub1 (mNameF 3) (mC (.int 1)))))))
    (mSeq (mIfS (mBool (m2 gGt (mCall gLen (mCons (mNameF 5) mNil)) (mC (.int 40))))
    (mRet (mC (.bl false)))
    mNx)
    (mRet (m2 gEq (mCallF r_law_staged [none, none, none] (mCons (mCall gLen (mCons (mNameF 0) mNil)) (mCons (mNameF 2) (mCons (mFrz (mCallB r_law_letters (mCons (mNameF 0) (mCons (mNameF 5) mNil)))) mNil)))) (mLst (mCons (m2 gSub1 (mNameF 3) (mC (.int 0))) (mCons (m2 gSub1 (mNameF 3) (mC (.int 1))) mNil))))))))
noncomputable def r_law_is_proper : List DO → Rf := runBody 6 [] m_law_is_proper
noncomputable def l0_law_due : M Fl := (mSeq (mIfS (mNotT (mTru (mCallB r_law_is_proper (mCons (mNameF 0) (mCons (mName 2) (mCons (mSl (mNameF 1) (M.ret none) (mPart (mNameF 3))) (mCons (m2 gSub1 (mNameF 1) (mNameF 3)) mNil)))))))
    (mRet (mNameF 3))
    mNx)
    (mDrop (mAppend tab (.s 2) (mCons (mFrz (m2 gAdd (m2 gSub1 (mName 2) (m2 gSub1 (m2 gSub1 (mNameF 1) (mNameF 3)) (mC (.int 0)))) (m2 gSub1 (mName 2) (m2 gSub1 (m2 gSub1 (mNameF 1) (mNameF 3)) (mC (.int 1)))))) mNil))))
noncomputable def m_law_due : M Fl := (mSeq (mSet 2 (mCall gList (mCons (mNameF 0) mNil)))
    (mSeq (mFor (mRange1 (mCons (mCall gLen (mCons (mNameF 1) mNil)) mNil)) (tgN 3)
    l0_law_due)
    (mRet (mC .non))))
noncomputable def r_law_due : List DO → Rf := runBody 4 [] m_law_due
noncomputable def l0_law_numbers : M Fl := (mIfS (mTru (mNameF 3))
    (mSeq (mDrop (mAppend tab (.s 5) (mCons (m2 gMod (mCall gInt (mCons (mNameF 4) mNil)) (mC (.int 1000))) mNil)))
    (mSet 4 (m2 gDiv (mNameF 4) (mC (.int 1000)))))
    (mSeq (mSet 7 (m2 gMod (mCall gInt (mCons (m2 gAdd (m2 gAdd (m2 gAdd (m2 gMul (mNameF 4) (mC (.int 48271))) (m2 gMul (mNameF 1) (mC (.int 69621)))) (m2 gMul (mNameF 6) (mC (.int 16807)))) (mC (.int 7))) mNil)) (mC (.int 2147483647))))
    (mSeq (mSet 7 (m2 gMod (mCall gInt (mCons (m2 gAdd (m2 gAdd (m2 gMul (mNameF 7) (mNameF 7)) (m2 gMul (mNameF 6) (mC (.int 40692)))) (mC (.int 3))) mNil)) (mC (.int 2147483629))))
    (mSeq (mSet 7 (m2 gMod (mCall gInt (mCons (m2 gAdd (m2 gAdd (m2 gMul (mNameF 7) (mNameF 7)) (m2 gMul (mNameF 1) (mC (.int 30269)))) (mC (.int 5))) mNil)) (mC (.int 2147483587))))
    (mDrop (mAppend tab (.s 5) (mCons (m2 gMod (mCall gInt (mCons (m2 gDiv (mNameF 7) (mC (.int 5))) mNil)) (mC (.int 1000))) mNil)))))))
noncomputable def m_law_numbers : M Fl := (mSeq (mSet 3 (m2 gGe (mCall gAbs (mCons (mCall gInt (mCons (mNameF 0) mNil)) mNil)) (m2 gPow (mC (.int 10)) (mC (.int 18)))))
    (mSeq (mSet 4 (mFrz (m2 gAdd (m2 gMul (mC (.int 2)) (mCall gAbs (mCons (mCall gInt (mCons (mNameF 0) mNil)) mNil))) (mCall gInt (mCons (m2 gLt (mNameF 0) (mC (.int 0))) mNil)))))
    (mSeq (mSet 5 (mLst mNil))
    (mSeq (mFor (mRange1 (mCons (mNameF 2) mNil)) (tgN 6)
    l0_law_numbers)
    (mRet (mTake 5))))))
noncomputable def r_law_numbers : List DO → Rf := runBody 8 [] m_law_numbers
noncomputable def l0_law_pairs : M Fl := (mSeq (mSet 5 (mCall gInt (mCons (m2 gSub1 (mNameF 0) (m2 gAdd (mC (.int 10)) (m2 gMul (mC (.int 2)) (mNameF 4)))) mNil)))
    (mSeq (mSet 6 (m2 gMod (mCall gInt (mCons (mNameF 5) mNil)) (m2 gAdd (mCall gLen (mCons (mName 3) mNil)) (mC (.int 1)))))
    (mSeq (mSet 7 (m2 gMod (mCall gInt (mCons (m2 gSub1 (mNameF 0) (m2 gAdd (mC (.int 11)) (m2 gMul (mC (.int 2)) (mNameF 4)))) mNil)) (m2 gAdd (mCall gLen (mCons (mName 3) mNil)) (mC (.int 1)))))
    (mSeq (mIfS (mBool (m2 gEq (m2 gMod (mCall gInt (mCons (m2 gSub1 (mNameF 0) (mC (.int 3))) mNil)) (mC (.int 4))) (mC (.int 0))))
    (mSeq (mSet 6 (m2 gSub (mCall gLen (mCons (mName 3) mNil)) (mC (.int 1))))
    (mIfS (mBool (m2 gGt (m2 gMod (mCall gInt (mCons (m2 gSub1 (mNameF 0) (m2 gAdd (mC (.int 11)) (m2 gMul (mC (.int 2)) (mNameF 4)))) mNil)) (mC (.int 4))) (mC (.int 0))))
    (mSet 7 (m2 gSub (mCall gLen (mCons (mName 3) mNil)) (mC (.int 1))))
    mNx))
    mNx)
    (mSeq (mIfS (mAndT (mBool (m2 gGe (mNameF 6) (mCall gLen (mCons (mName 3) mNil)))) (mBool (m2 gGt (m2 gMod (mCall gInt (mCons (m2 gDiv (mNameF 5) (mC (.int 100))) mNil)) (mC (.int 4))) (mC (.int 0)))))
    (mSet 6 (mC (.int 0)))
    mNx)
    (mSeq (mIfS (mAndT (mBool (m2 gGe (mNameF 7) (mCall gLen (mCons (mName 3) mNil)))) (mBool (m2 gGt (m2 gMod (mCall gInt (mCons (m2 gDiv (mNameF 5) (mC (.int 100))) mNil)) (mC (.int 4))) (mC (.int 1)))))
    (mSet 7 (mC (.int 0)))
    mNx)
    (mSeq (mSet 8 (m2 gSub1 (mLst (mCons (m1 gNeg (mC (.int 1))) (mCons (m2 gSub (m1 gNeg (mNameF 7)) (mC (.int 1))) (mCons (mFrz (m2 gAdd (mCall gLen (mCons (mName 3) mNil)) (mC (.int 7)))) (mCons (m2 gPow (mC (.int 10)) (mC (.int 12))) (mCons (m1 gNeg (mCall gLen (mCons (mName 3) mNil))) mNil)))))) (m2 gMod (mCall gInt (mCons (m2 gDiv (m2 gSub1 (mNameF 0) (m2 gAdd (mC (.int 11)) (m2 gMul (mC (.int 2)) (mNameF 4)))) (mC (.int 60))) mNil)) (mC (.int 5)))))
    (mSeq (mIfS (mBool (m2 gEq (m2 gMod (mCall gInt (mCons (m2 gDiv (mNameF 5) (mC (.int 7))) mNil)) (mC (.int 60))) (mC (.int 1))))
    (mSet 7 (mNameF 8))
    mNx)
    (mSeq (mIfS (mBool (m2 gEq (m2 gMod (mCall gInt (mCons (m2 gDiv (mNameF 5) (mC (.int 7))) mNil)) (mC (.int 60))) (mC (.int 2))))
    (mSet 6 (mNameF 8))
    mNx)
    (mSeq (mSet 9 (mFrz (mCallB r_law_is_proper (mCons (mNameF 1) (mCons (mName 3) (mCons (mName 2) (mCons (mTup (mCons (mNameF 6) (mCons (mNameF 7) mNil))) mNil)))))))
    (mIfS (mOrT (mTru (mNameF 9)) (mOrT (mBool (m2 gEq (m2 gMod (mCall gInt (mCons (m2 gDiv (m2 gSub1 (mNameF 0) (m2 gAdd (mC (.int 40)) (m2 gMod (mCall gInt (mCons (mNameF 4) mNil)) (mC (.int 5))))) (m2 gAdd (mC (.int 1)) (mNameF 4))) mNil)) (mC (.int 12))) (mC (.int 0)))) (mBool (m2 gEq (m2 gMod (mCall gInt (mCons (m2 gSub1 (mNameF 0) (mC (.int 3))) mNil)) (mC (.int 4))) (mC (.int 0))))))
    (mSeq (mIfS (mTru (mNameF 9))
    (mDrop (mAppend tab (.s 3) (mCons (mFrz (m2 gAdd (m2 gSub1 (mName 3) (mNameF 6)) (m2 gSub1 (mName 3) (mNameF 7)))) mNil)))
    (mDrop (mAppend tab (.s 3) (mCons (mC (.str (Str.ofString ""))) mNil))))
    (mDrop (mAppend tab (.s 2) (mCons (mTup (mCons (mNameF 6) (mCons (mNameF 7) mNil))) mNil))))
    mNx)))))))))))
noncomputable def m_law_pairs : M Fl := (mSeq (mSet 2 (mLst mNil))
    (mSeq (mSet 3 (mCall gList (mCons (mNameF 1) mNil)))
    (mSeq (mFor (mRange1 (mCons (m2 gMod (mCall gInt (mCons (m2 gSub1 (mNameF 0) (mC (.int 2))) mNil)) (mC (.int 15))) mNil)) (tgN 4)
    l0_law_pairs)
    (mRet (mTake 2)))))
noncomputable def r_law_pairs : List DO → Rf := runBody 10 [] m_law_pairs
noncomputable def r_law_same : Nat → List DO → Rf
  | 0 => fun _ => .stuck
  | n + 1 => runBody 3 [] (mSeq (mIfS (mBool (m2 gIsN (mNameF 1) (mC .non)))
    (mRet (m2 gIsN (mNameF 0) (mC .non)))
    mNx)
    (mSeq (mIfS (mTru (mCall (gIsi it ito) (mCons (mNameF 1) (mCons (mC (.ty "str")) mNil))))
    (mRet (mAndV (mCall (gIsi it ito) (mCons (mNameF 0) (mCons (mC (.ty "str")) mNil))) (m2 gEq (mNameF 0) (mNameF 1))))
    mNx)
    (mSeq (mIfS (mTru (mCall (gIsi it ito) (mCons (mNameF 1) (mCons (mC (.ty "bool")) mNil))))
    (mRet (mAndV (mCall (gIsi it ito) (mCons (mNameF 0) (mCons (mC (.ty "bool")) mNil))) (m2 gEq (mNameF 0) (mNameF 1))))
    mNx)
    (mSeq (mIfS (mTru (mCall (gIsi it ito) (mCons (mNameF 1) (mCons (mC (.ty "int")) mNil))))
    (mRet (mAndV (mCall (gIsi it ito) (mCons (mNameF 0) (mCons (mC (.ty "int")) mNil))) (mAndV (mNotV (mCall (gIsi it ito) (mCons (mNameF 0) (mCons (mC (.ty "bool")) mNil)))) (m2 gEq (mNameF 0) (mNameF 1)))))
    mNx)
    (mSeq (mIfS (mOrT (mNotT (mTru (mCall (gIsi it ito) (mCons (mNameF 0) (mCons (mC (.ty "tuple")) mNil))))) (mBool (m2 gNe (mCall gLen (mCons (mNameF 0) mNil)) (mCall gLen (mCons (mNameF 1) mNil)))))
    (mRet (mC (.bl false)))
    mNx)
    (mSeq (mFor (mRange1 (mCons (mCall gLen (mCons (mNameF 1) mNil)) mNil)) (tgN 2)
    (mIfS (mNotT (mTru (mCallB (r_law_same n) (mCons (m2 gSub1 (mNameF 0) (mNameF 2)) (mCons (m2 gSub1 (mNameF 1) (mNameF 2)) mNil)))))
    (mRet (mC (.bl false)))
    mNx))
    (mRet (mC (.bl true)))))))))
noncomputable def l0_law : M Fl := (mSeq (mSet 2 (mFrz (mCallB r_law_numbers (mCons (m2 gSub1 (mNameF 0) (mNameF 1)) (mCons (mNameF 1) (mCons (mC (.int 45)) mNil))))))
    (mSeq (mSet 3 (mFrz (mCallB r_law_alphabet (mCons (mNameF 2) (mCons (mC (.int 4)) (mCons (m2 gAdd (mC (.int 1)) (m2 gMod (mCall gInt (mCons (m2 gSub1 (mNameF 2) (mC (.int 0))) mNil)) (mC (.int 5)))) mNil))))))
    (mSeq (mSet 4 (mFrz (mCallB r_law_pairs (mCons (mNameF 2) (mCons (mNameF 3) mNil)))))
    (mSeq (mSet 5 (mFrz (mCallB r_law_due (mCons (mNameF 3) (mCons (mNameF 4) mNil)))))
    (mSeq (mSet 6 (mTup (mCons (mC (.str (Str.ofString ""))) (mCons (mCall gTuple (mCons (mNameF 4) mNil)) mNil))))
    (mSeq (mIfS (mBool (m2 gIsNot (mNameF 5) (mC .non)))
    (mSet 6 (mTup (mCons (mC (.str (Str.ofString "NotProper"))) (mCons (mNameF 5) mNil))))
    mNx)
    (mSeq (mIfS (mBool (m2 gEq (m2 gMod (mCall gInt (mCons (m2 gSub1 (mNameF 2) (mC (.int 1))) mNil)) (mC (.int 8))) (mC (.int 0))))
    (mSeq (mSet 8 (mFrz (mLst (mCons (mC (.str (Str.ofString ""))) (mCons (mFrz (m2 gAdd (mNameF 3) (mSl (mNameF 3) (M.ret none) (mPart (mC (.int 1)))))) (mCons (mFrz (m2 gAdd (mNameF 3) (mC (.str (Str.ofString " "))))) (mCons (mFrz (m2 gAdd (mNameF 3) (mC (.str (Str.ofString "\n"))))) (mCons (mC (.str (Str.ofString "0123456789ABCDEFGHIJKLMNOPQRSTU"))) mNil))))))))
    (mSeq (mSet 8 (mFrz (m2 gAdd (mNameF 8) (mLst (mCons (mC (.str (Str.ofString "0123456789ABCDEFGHIJKLMNOPQRSTUVWXYZ"))) (mCons (mFrz (m2 gAdd (mC (.str (Str.ofString "\t"))) (mNameF 3))) (mCons (mFrz (m2 gAdd (m2 gSub1 (mNameF 3) (m1 gNeg (mC (.int 1)))) (mNameF 3))) mNil)))))))
    (mSeq (mSet 3 (m2 gSub1 (mNameF 8) (m2 gMod (mCall gInt (mCons (m2 gDiv (m2 gSub1 (mNameF 2) (mC (.int 1))) (mC (.int 8))) mNil)) (mC (.int 8)))))
    (mSet 6 (mTup (mCons (mC (.str (Str.ofString "InvalidAlphabet"))) (mCons (mNameF 3) mNil)))))))
    mNx)
    (mSeq (mSet 7 (mNameF 4))
    (mSeq (mIfS (mBool (m2 gEq (m2 gMod (mCall gInt (mCons (m2 gSub1 (mNameF 2) (mC (.int 9))) mNil)) (mC (.int 2))) (mC (.int 0))))
    (mSet 7 (mCall gTuple (mCons (mNameF 4) mNil)))
    mNx)
    (mIfS (mNotT (mTru (mCallB (r_law_same fuel) (mCons (mCallB r_law_ask (mCons (mNameF 3) (mCons (mNameF 7) mNil))) (mCons (mNameF 6) mNil)))))
    (mRet (mC (.bl false)))
    mNx))))))))))
noncomputable def m_law : M Fl := (mSeq (mFor (mRange1 (mCons (mCall gMin2 (mCons (mCall gLen (mCons (mNameF 0) mNil)) (mCons (mC (.int 8)) mNil))) mNil)) (tgN 1)
    l0_law)
    (mRet (mC (.bl true))))
noncomputable def r_law : List DO → Rf := runBody 9 [] m_law
end DL
namespace DL
open PySem PySem.Spec L2
noncomputable def t_law_numbers_l0 (a1 : Int) (p539 : Bool) (x549 : Int) (s548 : (Int × (List Int))) : TR (Fo (Int × (List Int)) (Int × (List Int)) (List Int)) :=
  if p539 = true then (appT s548.2 (s548.1 % (1000 : Int))).bind fun p551 => (divT s548.1 (1000 : Int)).bind fun p553 => .ok (.nx (p553, p551)) else (((((((mulT s548.1 (48271 : Int)).bind fun p653 => (mulT a1 (69621 : Int)).bind fun p655 => .ok ((p653 + p655))).bind fun p657 => (mulT x549 (16807 : Int)).bind fun p659 => .ok ((p657 + p659))).bind fun p661 => .ok ((p661 + (7 : Int)))).bind fun p663 => .ok p663).bind fun p665 => .ok (p665)).bind fun p667 => .ok ((p667 % (2147483647 : Int)))).bind fun p669 => ((((((mulT p669 p669).bind fun p709 => (mulT x549 (40692 : Int)).bind fun p711 => .ok ((p709 + p711))).bind fun p713 => .ok ((p713 + (3 : Int)))).bind fun p715 => .ok p715).bind fun p717 => .ok (p717)).bind fun p719 => .ok ((p719 % (2147483629 : Int)))).bind fun p721 => ((((((mulT p721 p721).bind fun p761 => (mulT a1 (30269 : Int)).bind fun p763 => .ok ((p761 + p763))).bind fun p765 => .ok ((p765 + (5 : Int)))).bind fun p767 => .ok p767).bind fun p769 => .ok (p769)).bind fun p771 => .ok ((p771 % (2147483587 : Int)))).bind fun p773 => ((((((divT p773 (5 : Int)).bind fun p789 => .ok p789).bind fun p791 => .ok (p791)).bind fun p793 => .ok ((p793 % (1000 : Int)))).bind fun p795 => .ok p795).bind fun b => (appT s548.2 b).bind fun zs => .ok zs).bind fun p799 => .ok (.nx (s548.1, p799))
noncomputable def t_law_numbers (a0 : Int) (a1 : Int) (a2 : Int) : TR (List Int) := TR.fin (((powT (10 : Int) (18 : Int)).bind fun p537 => .ok ((decide (p537 ≤ (if a0 < 0 then -a0 else a0))))).bind fun p539 => ((mulT (2 : Int) (if a0 < 0 then -a0 else a0)).bind fun p541 => .ok ((p541 + (if (decide (a0 < (0 : Int))) then 1 else 0 : Int)))).bind fun p543 => TR.seq ((rng1 a2).bind fun p546 => forT (t_law_numbers_l0 a1 p539) p546 (p543, [])) fun (s801 : (Int × (List Int))) => .ok (.rt s801.2))
noncomputable def t_law_alphabet_l0 (a0 : (List Int)) (a1 : Int) (p950 : Str) (x956 : Int) (s955 : (List Str)) : TR (Fo (List Str) (List Str) Str) :=
  (((((idx a0 (a1 + x956)).bind fun p974 => .ok p974).bind fun p976 => .ok (p976)).bind fun p978 => (lenS p950).bind fun p980 => modT p978 p980).bind fun p982 => idxS p950 p982).bind fun p984 => if (!s955.contains p984) = true then (appT s955 p984).bind fun p986 => .ok (.nx p986) else .ok (.nx s955)
noncomputable def t_law_alphabet (a0 : (List Int)) (a1 : Int) (a2 : Int) : TR Str := TR.fin ((addS (Str.ofString " !\"#$&'()*+,-./0123456789:;<=>?@ABCDEFGHIJKLMNOPQRSTUVWXYZ[\\]^_") (Str.ofString "`abcdefghijklmnopqrstuvwxyz{|}~")).bind fun p950 => TR.seq ((rng1 a2).bind fun p953 => forT (t_law_alphabet_l0 a0 a1 p950) p953 []) fun (s988 : (List Str)) => (((sortT s988).bind fun p990 => .ok p990).bind fun p992 => joinT (Str.ofString "") p992).bind fun p => .ok (.rt p))
noncomputable def t_law_letters (a0 : Str) (a1 : Str) : TR (List Int) := TR.fin ((lc1 (fun (x1604 : Str) => .ok (true)) (fun (x1604 : Str) => indexT a0 x1604) (signs a1)).bind fun p => .ok (.rt p))
noncomputable def t_law_join_all_l0 (a0 : (List Int)) (a1 : (Int × Int)) (a2 : Int) (x1719 : Int) (s1718 : ((List Int) × Bool)) : TR (Fo ((List Int) × Bool) ((List Int) × Bool) (List Int)) :=
  if s1718.2 = true then .ok (.nx (s1718.1, false)) else (andT (.ok ((decide ((x1719 + (1 : Int)) < (a0.length : Int))))) ((((idx a0 x1719).bind fun p1743 => (idx a0 (x1719 + (1 : Int))).bind fun p1745 => .ok (p1743, p1745)).bind fun p1747 => .ok ((p1747.1, p1747.2))).bind fun p1749 => .ok ((decide (p1749 = a1))))).bind fun p1751 => if p1751 = true then (appT s1718.1 a2).bind fun p1753 => .ok (.nx (p1753, true)) else (((idx a0 x1719).bind fun p1756 => .ok p1756).bind fun b => (appT s1718.1 b).bind fun zs => .ok zs).bind fun p1760 => .ok (.nx (p1760, s1718.2))
noncomputable def t_law_join_all (a0 : (List Int)) (a1 : (Int × Int)) (a2 : Int) : TR (List Int) := TR.fin (TR.seq ((rng1 (a0.length : Int)).bind fun p1716 => forT (t_law_join_all_l0 a0 a1 a2) p1716 ([], false)) fun (s1762 : ((List Int) × Bool)) => .ok (.rt s1762.1))
noncomputable def t_law_staged_l0 (a0 : Int) (a1 : (List (Int × Int))) (x1643 : Int) (s1642 : (List Int)) : TR (Fo (List Int) (List Int) (List Int)) :=
  (((idx a1 x1643).bind fun p1645 => .ok p1645).bind fun b => (t_law_join_all s1642 b (a0 + x1643)).bind fun a => .ok a).bind fun p1651 => .ok (.nx p1651)
noncomputable def t_law_staged (a0 : Int) (a1 : (List (Int × Int))) (a2 : (List Int)) : TR (List Int) := TR.fin (TR.seq ((rng1 (a1.length : Int)).bind fun p1640 => forT (t_law_staged_l0 a0 a1) p1640 a2) fun (s1653 : (List Int)) => .ok (.rt s1653))
noncomputable def t_law_is_proper_l0 (a1 : (List Str)) (x1699 : Int) (s1698 : Unit) : TR (Fo Unit Unit Bool) :=
  if (!((decide ((0 : Int) ≤ x1699)) && (decide (x1699 < (a1.length : Int))))) = true then .ok (.rt false) else .ok (.nx ())
noncomputable def t_law_is_proper (a0 : Str) (a1 : (List Str)) (a2 : (List (Int × Int))) (a3 : (Int × Int)) : TR Bool := TR.fin (TR.seq (forT (t_law_is_proper_l0 a1) [a3.1, a3.2] ()) fun (s1701 : Unit) => ((idx a1 a3.1).bind fun p1703 => (idx a1 a3.2).bind fun p1705 => addS p1703 p1705).bind fun p1707 => ((lenS p1707).bind fun p1709 => .ok ((decide ((40 : Int) < p1709)))).bind fun p1711 => if p1711 = true then .ok (.rt false) else ((((lenS a0).bind fun p1719 => (t_law_letters a0 p1707).bind fun p1721 => .ok (p1719, p1721)).bind fun b => (t_law_staged b.1 a2 b.2).bind fun a => .ok a).bind fun p1725 => .ok ((decide (p1725 = [a3.1, a3.2])))).bind fun p => .ok (.rt p))
noncomputable def t_law_pairs_l0 (a0 : (List Int)) (a1 : Str) (x2578 : Int) (s2577 : ((List (Int × Int)) × (List Str))) : TR (Fo ((List (Int × Int)) × (List Str)) ((List (Int × Int)) × (List Str)) (List (Int × Int))) :=
  (((((mulT (2 : Int) x2578).bind fun p2588 => .ok (((10 : Int) + p2588))).bind fun p2590 => idx a0 p2590).bind fun p2592 => .ok p2592).bind fun p2594 => .ok (p2594)).bind fun p2596 => (modT p2596 ((s2577.2.length : Int) + (1 : Int))).bind fun p2598 => ((((((mulT (2 : Int) x2578).bind fun p2624 => .ok (((11 : Int) + p2624))).bind fun p2626 => idx a0 p2626).bind fun p2628 => .ok p2628).bind fun p2630 => .ok (p2630)).bind fun p2632 => modT p2632 ((s2577.2.length : Int) + (1 : Int))).bind fun p2634 => TR.seq ((((((idx a0 (3 : Int)).bind fun p2672 => .ok p2672).bind fun p2674 => .ok (p2674)).bind fun p2676 => .ok ((p2676 % (4 : Int)))).bind fun p2678 => .ok ((decide (p2678 = (0 : Int))))).bind fun p2680 => if p2680 = true then (TR.ok (((s2577.2.length : Int) - (1 : Int)) : Int)).bind fun v2683 => (((((((mulT (2 : Int) x2578).bind fun p2742 => .ok (((11 : Int) + p2742))).bind fun p2744 => idx a0 p2744).bind fun p2746 => .ok p2746).bind fun p2748 => .ok (p2748)).bind fun p2750 => .ok ((p2750 % (4 : Int)))).bind fun p2752 => .ok ((decide ((0 : Int) < p2752)))).bind fun p2754 => if p2754 = true then (TR.ok (((s2577.2.length : Int) - (1 : Int)) : Int)).bind fun v2757 => .ok (.nx (v2683, v2757)) else .ok (.nx (v2683, p2634)) else .ok (.nx (p2598, p2634))) fun (s2758 : (Int × Int)) => TR.seq ((andT (.ok ((decide ((s2577.2.length : Int) ≤ s2758.1)))) (((((divT p2596 (100 : Int)).bind fun p2842 => .ok p2842).bind fun p2844 => .ok (p2844)).bind fun p2846 => .ok ((p2846 % (4 : Int)))).bind fun p2848 => .ok ((decide ((0 : Int) < p2848))))).bind fun p2850 => if p2850 = true then .ok (.nx (0 : Int)) else .ok (.nx s2758.1)) fun (s2853 : Int) => TR.seq ((andT (.ok ((decide ((s2577.2.length : Int) ≤ s2758.2)))) (((((divT p2596 (100 : Int)).bind fun p2937 => .ok p2937).bind fun p2939 => .ok (p2939)).bind fun p2941 => .ok ((p2941 % (4 : Int)))).bind fun p2943 => .ok ((decide ((1 : Int) < p2943))))).bind fun p2945 => if p2945 = true then .ok (.nx (0 : Int)) else .ok (.nx s2758.2)) fun (s2948 : Int) => ((((powT (10 : Int) (12 : Int)).bind fun p2954 => .ok p2954).bind fun p2956 => .ok ([(-(1 : Int)), ((-s2948) - (1 : Int)), ((s2577.2.length : Int) + (7 : Int)), p2956, (-(s2577.2.length : Int))])).bind fun p2958 => (((((((mulT (2 : Int) x2578).bind fun p3014 => .ok (((11 : Int) + p3014))).bind fun p3016 => idx a0 p3016).bind fun p3018 => divT p3018 (60 : Int)).bind fun p3020 => .ok p3020).bind fun p3022 => .ok (p3022)).bind fun p3024 => .ok ((p3024 % (5 : Int)))).bind fun p3026 => idx p2958 p3026).bind fun p3028 => TR.seq ((((((divT p2596 (7 : Int)).bind fun p3066 => .ok p3066).bind fun p3068 => .ok (p3068)).bind fun p3070 => .ok ((p3070 % (60 : Int)))).bind fun p3072 => .ok ((decide (p3072 = (1 : Int))))).bind fun p3074 => if p3074 = true then .ok (.nx p3028) else .ok (.nx s2948)) fun (s3077 : Int) => TR.seq ((((((divT p2596 (7 : Int)).bind fun p3115 => .ok p3115).bind fun p3117 => .ok (p3117)).bind fun p3119 => .ok ((p3119 % (60 : Int)))).bind fun p3121 => .ok ((decide (p3121 = (2 : Int))))).bind fun p3123 => if p3123 = true then .ok (.nx p3028) else .ok (.nx s2853)) fun (s3126 : Int) => (t_law_is_proper a1 s2577.2 s2577.1 (s3126, s3077)).bind fun p3128 => (orT (.ok (p3128)) (orT ((((((idx a0 ((40 : Int) + (x2578 % (5 : Int)))).bind fun p3242 => divT p3242 ((1 : Int) + x2578)).bind fun p3244 => .ok p3244).bind fun p3246 => .ok (p3246)).bind fun p3248 => .ok ((p3248 % (12 : Int)))).bind fun p3250 => .ok ((decide (p3250 = (0 : Int))))) (((((idx a0 (3 : Int)).bind fun p3289 => .ok p3289).bind fun p3291 => .ok (p3291)).bind fun p3293 => .ok ((p3293 % (4 : Int)))).bind fun p3295 => .ok ((decide (p3295 = (0 : Int))))))).bind fun p3297 => if p3297 = true then TR.seq (if p3128 = true then ((((idx s2577.2 s3126).bind fun p3303 => (idx s2577.2 s3077).bind fun p3305 => addS p3303 p3305).bind fun p3307 => .ok p3307).bind fun b => (appT s2577.2 b).bind fun zs => .ok zs).bind fun p3311 => .ok (.nx p3311) else (appT s2577.2 (Str.ofString "")).bind fun p3313 => .ok (.nx p3313)) fun (s3315 : (List Str)) => (appT s2577.1 (s3126, s3077)).bind fun p3317 => .ok (.nx (p3317, s3315)) else .ok (.nx (s2577.1, s2577.2))
noncomputable def t_law_pairs (a0 : (List Int)) (a1 : Str) : TR (List (Int × Int)) := TR.fin ((listS a1).bind fun p2549 => TR.seq (((((((idx a0 (2 : Int)).bind fun p2565 => .ok p2565).bind fun p2567 => .ok (p2567)).bind fun p2569 => .ok ((p2569 % (15 : Int)))).bind fun p2571 => .ok p2571).bind fun p2573 => rng1 p2573).bind fun p2575 => forT (t_law_pairs_l0 a0 a1) p2575 ([], p2549)) fun (s3319 : ((List (Int × Int)) × (List Str))) => .ok (.rt s3319.1))
noncomputable def t_law_due_l0 (a0 : Str) (a1 : (List (Int × Int))) (x3462 : Int) (s3461 : (List Str)) : TR (Fo (List Str) (List Str) (Option Int)) :=
  (((idx a1 x3462).bind fun p3464 => .ok p3464).bind fun b => (t_law_is_proper a0 s3461 (cutL a1 none (some x3462)) b).bind fun a => .ok a).bind fun p3470 => if (!p3470) = true then .ok (.rt (some x3462)) else ((((((idx a1 x3462).bind fun p3502 => .ok (p3502.1)).bind fun p3504 => idx s3461 p3504).bind fun p3506 => (((idx a1 x3462).bind fun p3510 => .ok (p3510.2)).bind fun p3512 => idx s3461 p3512).bind fun p3514 => addS p3506 p3514).bind fun p3516 => .ok p3516).bind fun b => (appT s3461 b).bind fun zs => .ok zs).bind fun p3520 => .ok (.nx p3520)
noncomputable def t_law_due (a0 : Str) (a1 : (List (Int × Int))) : TR (Option Int) := TR.fin ((listS a0).bind fun p3457 => TR.seq ((rng1 (a1.length : Int)).bind fun p3459 => forT (t_law_due_l0 a0 a1) p3459 p3457) fun (s3522 : (List Str)) => .ok (.rt none))
noncomputable def t_is_alphabet_l0  (x3764 : Str) (s3763 : Unit) : TR (Fo Unit Unit Bool) :=
  if (!((leS (Str.ofString " ") x3764) && (leS x3764 (Str.ofString "~")))) = true then .ok (.rt false) else .ok (.nx ())
noncomputable def t_is_alphabet_l1 (a0 : Str) (x3775 : Int) (s3774 : Unit) : TR (Fo Unit Unit Bool) :=
  ((idxS a0 (x3775 - (1 : Int))).bind fun p3777 => (idxS a0 x3775).bind fun p3779 => .ok ((leS p3779 p3777))).bind fun p3781 => if p3781 = true then .ok (.rt false) else .ok (.nx ())
noncomputable def t_is_alphabet (a0 : Str) : TR Bool := TR.fin (((lenS a0).bind fun p3759 => .ok (((decide ((1 : Int) ≤ p3759)) && (decide (p3759 ≤ (30 : Int)))))).bind fun p3761 => if (!p3761) = true then .ok (.rt false) else TR.seq (forT t_is_alphabet_l0 (signs a0) ()) fun (s3766 : Unit) => TR.seq ((((lenS a0).bind fun p3768 => .ok p3768).bind fun p3770 => rng2 (1 : Int) p3770).bind fun p3772 => forT (t_is_alphabet_l1 a0) p3772 ()) fun (s3783 : Unit) => .ok (.rt true))
noncomputable def t_checked_alphabet (a0 : Str) : TR Str := TR.fin ((t_is_alphabet a0).bind fun p3789 => if (!p3789) = true then .err "InvalidAlphabet" [("alphabet", D.str a0)] else .ok (.rt a0))
structure O_Joins where
  alphabet : Str
  pairs : (List (Int × Int))
  texts : (List Str)
  ranks : (List ((Int × Int) × Int))
  numbers : (List (Str × Int))
  longest : Int
def e_Joins (x : O_Joins) : D := .obj "Joins" [("alphabet", D.str x.alphabet), ("pairs", (eTup (eP2 D.int D.int)) x.pairs), ("texts", (eLst D.str) x.texts), ("ranks", (eDit kII D.int) x.ranks), ("numbers", (eDic kS D.int) x.numbers), ("longest", D.int x.longest)]
abbrev own_Joins : Own := .obj [("numbers", Own.lst Own.no), ("ranks", Own.lst Own.no), ("texts", Own.lst Own.no)]
noncomputable def t_is_between (a0 : Int) (a1 : Int) (a2 : Int) : TR Bool := TR.fin (.ok (.rt (true && ((!false) && ((decide (a1 ≤ a0)) && (decide (a0 ≤ a2)))))))
noncomputable def t_lowest_pair_l0 (a0 : (List ((Int × Int) × Int))) (a1 : (List Int)) (x3931 : Int) (s3930 : (Option (Int × Int))) : TR (Fo (Option (Int × Int)) (Option (Int × Int)) (Option (Int × Int))) :=
  (((idx a1 x3931).bind fun p3933 => (idx a1 (x3931 + (1 : Int))).bind fun p3935 => .ok (p3933, p3935)).bind fun p3937 => .ok ((p3937.1, p3937.2))).bind fun p3939 => (andT (.ok ((tval a0 p3939).isSome)) (orT (.ok (s3930.isNone)) ((dget a0 p3939).bind fun p3962 => ((TR.opt s3930).bind fun p3964 => dget a0 p3964).bind fun p3966 => .ok ((decide (p3962 < p3966)))))).bind fun p3968 => if p3968 = true then .ok (.nx (some p3939)) else .ok (.nx s3930)
noncomputable def t_lowest_pair (a0 : (List ((Int × Int) × Int))) (a1 : (List Int)) : TR (Option (Int × Int)) := TR.fin (TR.seq ((rng1 ((a1.length : Int) - (1 : Int))).bind fun p3928 => forT (t_lowest_pair_l0 a0 a1) p3928 none) fun (s3971 : (Option (Int × Int))) => .ok (.rt s3971))
noncomputable def t_put_together_l0 (a0 : (List Int)) (a1 : (Int × Int)) (a2 : Int) (s4091 : ((List Int) × Int)) : TR (Fo ((List Int) × Int) ((List Int) × Int) (List Int)) :=
  (andT (.ok ((decide ((s4091.2 + (1 : Int)) < (a0.length : Int))))) ((((idx a0 s4091.2).bind fun p4115 => (idx a0 (s4091.2 + (1 : Int))).bind fun p4117 => .ok (p4115, p4117)).bind fun p4119 => .ok ((p4119.1, p4119.2))).bind fun p4121 => .ok ((decide (p4121 = a1))))).bind fun p4123 => if p4123 = true then (appT s4091.1 a2).bind fun p4125 => (TR.ok ((s4091.2 + (2 : Int)) : Int)).bind fun v4128 => .ok (.nx (p4125, v4128)) else (((idx a0 s4091.2).bind fun p4129 => .ok p4129).bind fun b => (appT s4091.1 b).bind fun zs => .ok zs).bind fun p4133 => (TR.ok ((s4091.2 + (1 : Int)) : Int)).bind fun v4136 => .ok (.nx (p4133, v4136))
noncomputable def t_put_together_t0 (a0 : (List Int)) (s4091 : ((List Int) × Int)) : TR Bool :=
  .ok ((decide (s4091.2 < (a0.length : Int))))
noncomputable def t_put_together (a0 : (List Int)) (a1 : (Int × Int)) (a2 : Int) : TR (List Int) := TR.fin (TR.seq (whileT (t_put_together_t0 a0) (t_put_together_l0 a0 a1 a2) ([], (0 : Int))) fun (s4137 : ((List Int) × Int)) => .ok (.rt s4137.1))
noncomputable def t_cut_row_l0 (a0 : (List ((Int × Int) × Int))) (a1 : Int) (s4053 : ((List Int) × (Option (Int × Int)))) : TR (Fo ((List Int) × (Option (Int × Int))) ((List Int) × (Option (Int × Int))) (List Int)) :=
  (((TR.opt s4053.2).bind fun p4070 => (((TR.opt s4053.2).bind fun p4074 => dget a0 p4074).bind fun p4076 => .ok ((a1 + p4076))).bind fun p4078 => .ok (p4070, p4078)).bind fun b => (t_put_together s4053.1 b.1 b.2).bind fun a => .ok a).bind fun p4084 => (t_lowest_pair a0 p4084).bind fun p4086 => .ok (.nx (p4084, p4086))
noncomputable def t_cut_row_t0  (s4053 : ((List Int) × (Option (Int × Int)))) : TR Bool :=
  .ok (s4053.2.isSome)
noncomputable def t_cut_row (a0 : (List ((Int × Int) × Int))) (a1 : Int) (a2 : (List Int)) : TR (List Int) := TR.fin ((t_lowest_pair a0 a2).bind fun p4051 => TR.seq (whileT t_cut_row_t0 (t_cut_row_l0 a0 a1) (a2, p4051)) fun (s4088 : ((List Int) × (Option (Int × Int)))) => .ok (.rt s4088.1))
noncomputable def t_Joins_is_proper (a0 : O_Joins) (a1 : (Int × Int)) : TR Bool := TR.fin ((TR.ok (((a0.texts.length : Int) - (1 : Int)) : Int)).bind fun v4148 => (orT ((t_is_between a1.1 (0 : Int) v4148).bind fun p => .ok ((!p))) ((t_is_between a1.2 (0 : Int) v4148).bind fun p => .ok ((!p)))).bind fun p4150 => if p4150 = true then .ok (.rt false) else ((idx a0.texts a1.1).bind fun p4152 => (idx a0.texts a1.2).bind fun p4154 => addS p4152 p4154).bind fun p4156 => ((lenS p4156).bind fun p4158 => .ok ((decide ((40 : Int) < p4158)))).bind fun p4160 => if p4160 = true then .ok (.rt false) else (((lc1 (fun (x4164 : Str) => .ok (true)) (fun (x4164 : Str) => dget a0.numbers x4164) (signs p4156)).bind fun p4166 => .ok p4166).bind fun p4168 => .ok (p4168)).bind fun p4170 => ((((lenS a0.alphabet).bind fun p4178 => .ok p4178).bind fun b => (t_cut_row a0.ranks b p4170).bind fun a => .ok a).bind fun p4184 => .ok ((decide (p4184 = [a1.1, a1.2])))).bind fun p => .ok (.rt p))
noncomputable def t_Joins_take (a0 : O_Joins) (a1 : (Int × Int)) : TR (Unit × O_Joins) := TR.finN ((TR.ok ((a0.pairs.length : Int) : Int)).bind fun v4259 => (t_Joins_is_proper a0 a1).bind fun p4260 => if (!p4260) = true then .err "NotProper" [("rank", D.int v4259)] else ((idx a0.texts a1.1).bind fun p4262 => (idx a0.texts a1.2).bind fun p4264 => addS p4262 p4264).bind fun p4266 => (addT a0.pairs [a1]).bind fun p4269 => (TR.ok ({ a0 with pairs := p4269 } : O_Joins)).bind fun o4271 => (dputT o4271.numbers p4266 (o4271.texts.length : Int)).bind fun p4273 => (TR.ok ({ o4271 with numbers := p4273 } : O_Joins)).bind fun o4275 => (appT o4275.texts p4266).bind fun p4277 => (TR.ok ({ o4275 with texts := p4277 } : O_Joins)).bind fun o4279 => (dputT o4279.ranks a1 v4259).bind fun p4281 => (TR.ok ({ o4279 with ranks := p4281 } : O_Joins)).bind fun o4283 => (((lenS p4266).bind fun p4285 => .ok p4285).bind fun p4287 => .ok ((if p4287 > o4283.longest then p4287 else o4283.longest))).bind fun p4290 => (TR.ok ({ o4283 with longest := p4290 } : O_Joins)).bind fun o4292 => .ok (.nx ((), o4292)))
noncomputable def t_Joins_init_l0  (x3848 : (Int × Int)) (s3847 : O_Joins) : TR (Fo O_Joins O_Joins (Unit × O_Joins)) :=
  (t_Joins_take s3847 x3848).bind fun p3850 => .ok (.nx p3850.2)
noncomputable def t_Joins_init (a1 : Str) (a2 : (Bool × List (Int × Int))) : TR O_Joins := (TR.finN ((t_checked_alphabet a1).bind fun p3834 => (listS a1).bind fun p3838 => (dcT (fun (x3841 : (Int × Str)) => x3841.2) (fun (x3841 : (Int × Str)) => x3841.1) (enumT (signs a1))).bind fun p3844 => TR.seq (forT t_Joins_init_l0 a2.2 ({ alphabet := p3834, pairs := [], texts := p3838, ranks := [], numbers := p3844, longest := (1 : Int) } : O_Joins)) fun (s3852 : O_Joins) => .ok (.nx ((), s3852)) : TR (Fo (Unit × O_Joins) Empty (Unit × O_Joins)))).bind fun p => .ok p.2
noncomputable def t_law_ask (a0 : Str) (a1 : (Bool × List (Int × Int))) : TR (Str × D) := TR.ind (fun r => ((eP2 D.str eD) r, Own.no)) (TR.fin (TR.seq (tryT xm_law_ask (((((((t_Joins_init a0 a1).bind fun p3865 => .ok (p3865.pairs)).bind fun p3867 => .ok p3867).bind fun p3869 => .ok (((Str.ofString ""), p3869))).bind fun p3871 => .ok p3871).bind fun b => (appT [] (b.1, ((eTup (eP2 D.int D.int)) b.2))).bind fun zs => .ok zs).bind fun p3875 => .ok (.nx p3875)) (fun c0 fs0 => TR.seq ((isXT it c0 (.cls "InvalidAlphabet")).bind fun p3878 => if p3878 = true then (((((xfT fs0 "alphabet").bind fun p3884 => .ok p3884).bind fun p3886 => .ok (((Str.ofString "InvalidAlphabet"), p3886))).bind fun p3888 => .ok p3888).bind fun b => (appT [] b).bind fun zs => .ok zs).bind fun p3892 => .ok (.nx p3892) else .ok (.nx [])) fun (s3894 : (List (Str × D))) => TR.seq ((isXT it c0 (.cls "NotProper")).bind fun p3896 => if p3896 = true then (((((xfT fs0 "rank").bind fun p3902 => .ok p3902).bind fun p3904 => .ok (((Str.ofString "NotProper"), p3904))).bind fun p3906 => .ok p3906).bind fun b => (appT s3894 b).bind fun zs => .ok zs).bind fun p3910 => .ok (.nx p3910) else .ok (.nx s3894)) fun (s3912 : (List (Str × D))) => TR.seq ((isXT it c0 (.tup [(.cls "InvalidModel"), (.cls "InvalidNumber"), (.cls "InvalidText"), (.cls "NoChance"), (.cls "NoPiece"), (.cls "NotCut"), (.cls "UnknownSign")])).bind fun p3914 => if p3914 = true then (appT s3912 (((Str.ofString "other"), (Str.ofString "")).1, (D.str ((Str.ofString "other"), (Str.ofString "")).2))).bind fun p3916 => .ok (.nx p3916) else .ok (.nx s3912)) fun (s3918 : (List (Str × D))) => (isXT it c0 (.ty "ValueError")).bind fun p3920 => if (!p3920) = true then (appT s3918 (((Str.ofString "other"), (Str.ofString "")).1, (D.str ((Str.ofString "other"), (Str.ofString "")).2))).bind fun p3922 => .ok (.nx p3922) else .ok (.nx s3918))) fun (s3924 : (List (Str × D))) => if (decide ((s3924.length : Int) = (1 : Int))) = true then (idx s3924 (0 : Int)).bind fun p => .ok (.rt p) else .ok (.rt (((Str.ofString "other"), (Str.ofString "")).1, (D.str ((Str.ofString "other"), (Str.ofString "")).2)))))
noncomputable def t_law_same (a0 : D) (a1 : D) : TR Bool := asT (r_law_same fuel [(a0, Own.no), (a1, Own.no)]) boolD
noncomputable def t_law_l0 (a0 : (List Int)) (x522 : Int) (s521 : Unit) : TR (Fo Unit Unit Bool) :=
  (((idx a0 x522).bind fun p524 => .ok p524).bind fun b => (t_law_numbers b x522 (45 : Int)).bind fun a => .ok a).bind fun p530 => (((((((idx p530 (0 : Int)).bind fun p568 => .ok p568).bind fun p570 => .ok (p570)).bind fun p572 => .ok ((p572 % (5 : Int)))).bind fun p574 => .ok (((1 : Int) + p574))).bind fun p576 => .ok p576).bind fun b => (t_law_alphabet p530 (4 : Int) b).bind fun a => .ok a).bind fun p582 => (t_law_pairs p530 p582).bind fun p584 => (t_law_due p582 p584).bind fun p586 => (TR.ok (((Str.ofString ""), p584) : (Str × (List (Int × Int))))).bind fun v589 => TR.seq (if p586.isSome = true then (TR.ok (((Str.ofString "NotProper"), p586) : (Str × (Option Int)))).bind fun v591 => .ok (.nx (v591.1, ((eOpt D.int) v591.2))) else .ok (.nx (v589.1, ((eTup (eP2 D.int D.int)) v589.2)))) fun (s592 : (Str × D)) => TR.seq ((((((idx p530 (1 : Int)).bind fun p630 => .ok p630).bind fun p632 => .ok (p632)).bind fun p634 => .ok ((p634 % (8 : Int)))).bind fun p636 => .ok ((decide (p636 = (0 : Int))))).bind fun p638 => if p638 = true then ((((slS p582 none (some (1 : Int))).bind fun p642 => addS p582 p642).bind fun p644 => (addS p582 (Str.ofString " ")).bind fun p646 => (addS p582 (Str.ofString "\n")).bind fun p648 => .ok (p644, p646, p648)).bind fun p650 => .ok ([(Str.ofString ""), p650.1, p650.2.1, p650.2.2, (Str.ofString "0123456789ABCDEFGHIJKLMNOPQRSTU")])).bind fun p652 => ((((addS (Str.ofString "\t") p582).bind fun p662 => ((idxS p582 (-(1 : Int))).bind fun p664 => addS p664 p582).bind fun p666 => .ok (p662, p666)).bind fun p668 => .ok ([(Str.ofString "0123456789ABCDEFGHIJKLMNOPQRSTUVWXYZ"), p668.1, p668.2])).bind fun p670 => addT p652 p670).bind fun p672 => ((((((idx p530 (1 : Int)).bind fun p702 => divT p702 (8 : Int)).bind fun p704 => .ok p704).bind fun p706 => .ok (p706)).bind fun p708 => .ok ((p708 % (8 : Int)))).bind fun p710 => idx p672 p710).bind fun p712 => (TR.ok (((Str.ofString "InvalidAlphabet"), p712) : (Str × Str))).bind fun v715 => .ok (.nx (p712, (v715.1, (D.str v715.2)))) else .ok (.nx (p582, s592))) fun (s716 : (Str × (Str × D))) => TR.seq ((((((idx p530 (9 : Int)).bind fun p755 => .ok p755).bind fun p757 => .ok (p757)).bind fun p759 => .ok ((p759 % (2 : Int)))).bind fun p761 => .ok ((decide (p761 = (0 : Int))))).bind fun p763 => if p763 = true then .ok (.nx (false, p584)) else .ok (.nx (true, p584))) fun (s766 : (Bool × List (Int × Int))) => (((t_law_ask s716.1 s766).bind fun p768 => .ok p768).bind fun b => (t_law_same ((eP2 D.str eD) b) ((eP2 D.str eD) s716.2)).bind fun a => .ok a).bind fun p774 => if (!p774) = true then .ok (.rt false) else .ok (.nx ())
noncomputable def t_law (a0 : (List Int)) : TR Bool := TR.fin (TR.seq ((rng1 (if (8 : Int) < (a0.length : Int) then (8 : Int) else (a0.length : Int))).bind fun p519 => forT (t_law_l0 a0) p519 ()) fun (s776 : Unit) => .ok (.rt true))
end DL
namespace DL
open PySem PySem.Spec L2
theorem lk_law_numbers (a0 : Int) (a1 : Int) (a2 : Int) : LF (r_law_numbers [(D.int a0, Own.no), (D.int a1, Own.no), (D.int a2, Own.no)]) (t_law_numbers a0 a1 a2) (fun r => ((eLst D.int) r, Own.lst Own.no)) :=
  LF.run0 (s := [some (D.int a0, Own.no), some (D.int a1, Own.no), some (D.int a2, Own.no), none, none, none, none, none]) (fun x => idt_lst (fun _ => rfl) x) rfl fun h0 => (LS.set (enc := fun (p : Bool) => (D.bl p, Own.no)) (sp := fun _ => [some (D.int a0, Own.no), some (D.int a1, Own.no), some (D.int a2, Own.no), none, none, none, none, none]) (LK.pure (pCall (pCons (pCall (pCons (pnF 0 h0 rfl) pNil) rfl) pNil) rfl) (LK.bind (enc := fun (p : Int) => (D.int p, Own.no)) (sp := fun _ => [some (D.int a0, Own.no), some (D.int a1, Own.no), some (D.int a2, Own.no), none, none, none, none, none]) (LK.pure rfl (LK.pure rfl (LK.po (po_pow ((10 : Int)) ((18 : Int))) h0))) fun p537 ρ h538 => (LK.of rfl h538))) fun p539 ρ h540 => (LS.set (enc := fun (p : Int) => (D.int p, Own.no)) (sp := fun _ => [some (D.int a0, Own.no), some (D.int a1, Own.no), some (D.int a2, Own.no), some (D.bl p539, Own.no), none, none, none, none]) (LK.frz (e := fun p => D.int p) (o := fun _ => Own.no) (LK.bind (enc := fun (p : Int) => (D.int p, Own.no)) (sp := fun _ => [some (D.int a0, Own.no), some (D.int a1, Own.no), some (D.int a2, Own.no), some (D.bl p539, Own.no), none, none, none, none]) (LK.pure rfl (LK.pure (pCall (pCons (pCall (pCons (pnF 0 h540 rfl) pNil) rfl) pNil) rfl) (LK.po (po_mul ((2 : Int)) ((if a0 < 0 then -a0 else a0))) h540))) fun p541 ρ h542 => (LK.pure (pCall (pCons (p2 (pnF 0 h542 rfl) rfl rfl) pNil) (int_B _)) (LK.of rfl h542)))) fun p543 ρ h544 => (LS.setp h544 (pLst pNil ⟨rfl, small rfl⟩) fun ρ h545 => (LS.seq (sn := fun (s : (Int × (List Int))) => [some (D.int a0, Own.no), some (D.int a1, Own.no), some (D.int a2, Own.no), some (D.bl p539, Own.no), some (D.int s.1, Own.no), some ((eLst D.int) s.2, Own.lst Own.no), none, none]) (LS.for_ (encx := D.int) (sh := fun (s548 : (Int × (List Int))) => [some (D.int a0, Own.no), some (D.int a1, Own.no), some (D.int a2, Own.no), some (D.bl p539, Own.no), some (D.int s548.1, Own.no), some ((eLst D.int) s548.2, Own.lst Own.no), none, none]) (sb := fun (x549 : Int) (s548 : (Int × (List Int))) => [some (D.int a0, Own.no), some (D.int a1, Own.no), some (D.int a2, Own.no), some (D.bl p539, Own.no), some (D.int s548.1, Own.no), some ((eLst D.int) s548.2, Own.lst Own.no), some (D.int x549, Own.no), none]) (step := (t_law_numbers_l0 a1 p539)) (sp := fun _ => [some (D.int a0, Own.no), some (D.int a1, Own.no), some (D.int a2, Own.no), some (D.bl p539, Own.no), some (D.int p543, Own.no), some ((eLst D.int) [], Own.lst Own.no), none, none]) (xs := fun (p546 : (List Int)) => p546) (a := fun (p546 : (List Int)) => (p543, [])) (LK.range1 (pCons (pnF 2 h545 rfl) pNil) h545) (fun p546 ρ h => h.weak (.keep (.keep (.keep (.keep (.keep (.keep (.skip (.skip Le.nil))))))))) (fun x549 s548 ρ h => ⟨_, rfl, (h.set 6 _)⟩) (fun x549 s548 ρ h550 => (LS.ifp (pTru (pnF 3 h550 rfl) rfl) (fun _ => (LS.drop (enc := fun _ => (D.non, Own.no)) (sp := fun (p : (List Int)) => [some (D.int a0, Own.no), some (D.int a1, Own.no), some (D.int a2, Own.no), some (D.bl p539, Own.no), some (D.int s548.1, Own.no), some ((eLst D.int) p, Own.lst Own.no), some (D.int x549, Own.no), none]) (LK.append (e := D.int) h550 (pCons (p2 (pCall (pCons (pnF 4 h550 rfl) pNil) rfl) rfl (o_mod _ _ (by decide))) pNil) rfl rfl rfl) fun p551 ρ h552 => (LS.last (LS.set (enc := fun (p : Int) => (D.int p, Own.no)) (sp := fun _ => [some (D.int a0, Own.no), some (D.int a1, Own.no), some (D.int a2, Own.no), some (D.bl p539, Own.no), some (D.int s548.1, Own.no), some ((eLst D.int) p551, Own.lst Own.no), some (D.int x549, Own.no), none]) (LK.pure (pnF 4 h552 rfl) (LK.pure rfl (LK.po (po_div (s548.1) ((1000 : Int))) h552))) fun p553 ρ h554 => (LS.nx (a := (p553, p551)) (h554.weak (.keep (.keep (.keep (.keep (.keep (.keep (.skip (.skip Le.nil)))))))))))))) (fun _ => (LS.set (enc := fun (p : Int) => (D.int p, Own.no)) (sp := fun _ => [some (D.int a0, Own.no), some (D.int a1, Own.no), some (D.int a2, Own.no), some (D.bl p539, Own.no), some (D.int s548.1, Own.no), some ((eLst D.int) s548.2, Own.lst Own.no), some (D.int x549, Own.no), none]) (LK.bind (enc := fun (p : Int) => (D.int p, Own.no)) (sp := fun _ => [some (D.int a0, Own.no), some (D.int a1, Own.no), some (D.int a2, Own.no), some (D.bl p539, Own.no), some (D.int s548.1, Own.no), some ((eLst D.int) s548.2, Own.lst Own.no), some (D.int x549, Own.no), none]) (LK.bind (enc := fun (q : Int) => [(D.int q, Own.no)]) (sp := fun _ => [some (D.int a0, Own.no), some (D.int a1, Own.no), some (D.int a2, Own.no), some (D.bl p539, Own.no), some (D.int s548.1, Own.no), some ((eLst D.int) s548.2, Own.lst Own.no), some (D.int x549, Own.no), none]) (LA.done (LA.comp (enc := fun (p : Int) => (D.int p, Own.no)) (sp := fun _ => [some (D.int a0, Own.no), some (D.int a1, Own.no), some (D.int a2, Own.no), some (D.bl p539, Own.no), some (D.int s548.1, Own.no), some ((eLst D.int) s548.2, Own.lst Own.no), some (D.int x549, Own.no), none]) (LK.bind (enc := fun (p : Int) => (D.int p, Own.no)) (sp := fun _ => [some (D.int a0, Own.no), some (D.int a1, Own.no), some (D.int a2, Own.no), some (D.bl p539, Own.no), some (D.int s548.1, Own.no), some ((eLst D.int) s548.2, Own.lst Own.no), some (D.int x549, Own.no), none]) (LK.bind (enc := fun (p : Int) => (D.int p, Own.no)) (sp := fun _ => [some (D.int a0, Own.no), some (D.int a1, Own.no), some (D.int a2, Own.no), some (D.bl p539, Own.no), some (D.int s548.1, Own.no), some ((eLst D.int) s548.2, Own.lst Own.no), some (D.int x549, Own.no), none]) (LK.bind (enc := fun (p : Int) => (D.int p, Own.no)) (sp := fun _ => [some (D.int a0, Own.no), some (D.int a1, Own.no), some (D.int a2, Own.no), some (D.bl p539, Own.no), some (D.int s548.1, Own.no), some ((eLst D.int) s548.2, Own.lst Own.no), some (D.int x549, Own.no), none]) (LK.pure (pnF 4 h550 rfl) (LK.pure rfl (LK.po (po_mul (s548.1) ((48271 : Int))) h550))) fun p653 ρ h654 => (LK.bind (enc := fun (p : Int) => (D.int p, Own.no)) (sp := fun _ => [some (D.int a0, Own.no), some (D.int a1, Own.no), some (D.int a2, Own.no), some (D.bl p539, Own.no), some (D.int s548.1, Own.no), some ((eLst D.int) s548.2, Own.lst Own.no), some (D.int x549, Own.no), none]) (LK.pure (pnF 1 h654 rfl) (LK.pure rfl (LK.po (po_mul (a1) ((69621 : Int))) h654))) fun p655 ρ h656 => (LK.of rfl h656))) fun p657 ρ h658 => (LK.bind (enc := fun (p : Int) => (D.int p, Own.no)) (sp := fun _ => [some (D.int a0, Own.no), some (D.int a1, Own.no), some (D.int a2, Own.no), some (D.bl p539, Own.no), some (D.int s548.1, Own.no), some ((eLst D.int) s548.2, Own.lst Own.no), some (D.int x549, Own.no), none]) (LK.pure (pnF 6 h658 rfl) (LK.pure rfl (LK.po (po_mul (x549) ((16807 : Int))) h658))) fun p659 ρ h660 => (LK.of rfl h660))) fun p661 ρ h662 => (LK.pure rfl (LK.of rfl h662))) fun p663 ρ h664 => (LA.nil h664))) fun p665 ρ h666 => (LK.of rfl h666)) fun p667 ρ h668 => (LK.pure rfl (LK.of (o_mod _ _ (by decide)) h668))) fun p669 ρ h670 => (LS.set (enc := fun (p : Int) => (D.int p, Own.no)) (sp := fun _ => [some (D.int a0, Own.no), some (D.int a1, Own.no), some (D.int a2, Own.no), some (D.bl p539, Own.no), some (D.int s548.1, Own.no), some ((eLst D.int) s548.2, Own.lst Own.no), some (D.int x549, Own.no), some (D.int p669, Own.no)]) (LK.bind (enc := fun (p : Int) => (D.int p, Own.no)) (sp := fun _ => [some (D.int a0, Own.no), some (D.int a1, Own.no), some (D.int a2, Own.no), some (D.bl p539, Own.no), some (D.int s548.1, Own.no), some ((eLst D.int) s548.2, Own.lst Own.no), some (D.int x549, Own.no), some (D.int p669, Own.no)]) (LK.bind (enc := fun (q : Int) => [(D.int q, Own.no)]) (sp := fun _ => [some (D.int a0, Own.no), some (D.int a1, Own.no), some (D.int a2, Own.no), some (D.bl p539, Own.no), some (D.int s548.1, Own.no), some ((eLst D.int) s548.2, Own.lst Own.no), some (D.int x549, Own.no), some (D.int p669, Own.no)]) (LA.done (LA.comp (enc := fun (p : Int) => (D.int p, Own.no)) (sp := fun _ => [some (D.int a0, Own.no), some (D.int a1, Own.no), some (D.int a2, Own.no), some (D.bl p539, Own.no), some (D.int s548.1, Own.no), some ((eLst D.int) s548.2, Own.lst Own.no), some (D.int x549, Own.no), some (D.int p669, Own.no)]) (LK.bind (enc := fun (p : Int) => (D.int p, Own.no)) (sp := fun _ => [some (D.int a0, Own.no), some (D.int a1, Own.no), some (D.int a2, Own.no), some (D.bl p539, Own.no), some (D.int s548.1, Own.no), some ((eLst D.int) s548.2, Own.lst Own.no), some (D.int x549, Own.no), some (D.int p669, Own.no)]) (LK.bind (enc := fun (p : Int) => (D.int p, Own.no)) (sp := fun _ => [some (D.int a0, Own.no), some (D.int a1, Own.no), some (D.int a2, Own.no), some (D.bl p539, Own.no), some (D.int s548.1, Own.no), some ((eLst D.int) s548.2, Own.lst Own.no), some (D.int x549, Own.no), some (D.int p669, Own.no)]) (LK.pure (pnF 7 h670 rfl) (LK.pure (pnF 7 h670 rfl) (LK.po (po_mul (p669) (p669)) h670))) fun p709 ρ h710 => (LK.bind (enc := fun (p : Int) => (D.int p, Own.no)) (sp := fun _ => [some (D.int a0, Own.no), some (D.int a1, Own.no), some (D.int a2, Own.no), some (D.bl p539, Own.no), some (D.int s548.1, Own.no), some ((eLst D.int) s548.2, Own.lst Own.no), some (D.int x549, Own.no), some (D.int p669, Own.no)]) (LK.pure (pnF 6 h710 rfl) (LK.pure rfl (LK.po (po_mul (x549) ((40692 : Int))) h710))) fun p711 ρ h712 => (LK.of rfl h712))) fun p713 ρ h714 => (LK.pure rfl (LK.of rfl h714))) fun p715 ρ h716 => (LA.nil h716))) fun p717 ρ h718 => (LK.of rfl h718)) fun p719 ρ h720 => (LK.pure rfl (LK.of (o_mod _ _ (by decide)) h720))) fun p721 ρ h722 => (LS.set (enc := fun (p : Int) => (D.int p, Own.no)) (sp := fun _ => [some (D.int a0, Own.no), some (D.int a1, Own.no), some (D.int a2, Own.no), some (D.bl p539, Own.no), some (D.int s548.1, Own.no), some ((eLst D.int) s548.2, Own.lst Own.no), some (D.int x549, Own.no), some (D.int p721, Own.no)]) (LK.bind (enc := fun (p : Int) => (D.int p, Own.no)) (sp := fun _ => [some (D.int a0, Own.no), some (D.int a1, Own.no), some (D.int a2, Own.no), some (D.bl p539, Own.no), some (D.int s548.1, Own.no), some ((eLst D.int) s548.2, Own.lst Own.no), some (D.int x549, Own.no), some (D.int p721, Own.no)]) (LK.bind (enc := fun (q : Int) => [(D.int q, Own.no)]) (sp := fun _ => [some (D.int a0, Own.no), some (D.int a1, Own.no), some (D.int a2, Own.no), some (D.bl p539, Own.no), some (D.int s548.1, Own.no), some ((eLst D.int) s548.2, Own.lst Own.no), some (D.int x549, Own.no), some (D.int p721, Own.no)]) (LA.done (LA.comp (enc := fun (p : Int) => (D.int p, Own.no)) (sp := fun _ => [some (D.int a0, Own.no), some (D.int a1, Own.no), some (D.int a2, Own.no), some (D.bl p539, Own.no), some (D.int s548.1, Own.no), some ((eLst D.int) s548.2, Own.lst Own.no), some (D.int x549, Own.no), some (D.int p721, Own.no)]) (LK.bind (enc := fun (p : Int) => (D.int p, Own.no)) (sp := fun _ => [some (D.int a0, Own.no), some (D.int a1, Own.no), some (D.int a2, Own.no), some (D.bl p539, Own.no), some (D.int s548.1, Own.no), some ((eLst D.int) s548.2, Own.lst Own.no), some (D.int x549, Own.no), some (D.int p721, Own.no)]) (LK.bind (enc := fun (p : Int) => (D.int p, Own.no)) (sp := fun _ => [some (D.int a0, Own.no), some (D.int a1, Own.no), some (D.int a2, Own.no), some (D.bl p539, Own.no), some (D.int s548.1, Own.no), some ((eLst D.int) s548.2, Own.lst Own.no), some (D.int x549, Own.no), some (D.int p721, Own.no)]) (LK.pure (pnF 7 h722 rfl) (LK.pure (pnF 7 h722 rfl) (LK.po (po_mul (p721) (p721)) h722))) fun p761 ρ h762 => (LK.bind (enc := fun (p : Int) => (D.int p, Own.no)) (sp := fun _ => [some (D.int a0, Own.no), some (D.int a1, Own.no), some (D.int a2, Own.no), some (D.bl p539, Own.no), some (D.int s548.1, Own.no), some ((eLst D.int) s548.2, Own.lst Own.no), some (D.int x549, Own.no), some (D.int p721, Own.no)]) (LK.pure (pnF 1 h762 rfl) (LK.pure rfl (LK.po (po_mul (a1) ((30269 : Int))) h762))) fun p763 ρ h764 => (LK.of rfl h764))) fun p765 ρ h766 => (LK.pure rfl (LK.of rfl h766))) fun p767 ρ h768 => (LA.nil h768))) fun p769 ρ h770 => (LK.of rfl h770)) fun p771 ρ h772 => (LK.pure rfl (LK.of (o_mod _ _ (by decide)) h772))) fun p773 ρ h774 => (LS.last (LS.drop (enc := fun _ => (D.non, Own.no)) (sp := fun (p : (List Int)) => [some (D.int a0, Own.no), some (D.int a1, Own.no), some (D.int a2, Own.no), some (D.bl p539, Own.no), some (D.int s548.1, Own.no), some ((eLst D.int) p, Own.lst Own.no), some (D.int x549, Own.no), some (D.int p773, Own.no)]) (LK.appendc (encs := fun (q : Int) => [(D.int q, Own.no)]) (sp := fun _ => [some (D.int a0, Own.no), some (D.int a1, Own.no), some (D.int a2, Own.no), some (D.bl p539, Own.no), some (D.int s548.1, Own.no), some ((eLst D.int) s548.2, Own.lst Own.no), some (D.int x549, Own.no), some (D.int p773, Own.no)]) (sp' := fun p => [some (D.int a0, Own.no), some (D.int a1, Own.no), some (D.int a2, Own.no), some (D.bl p539, Own.no), some (D.int s548.1, Own.no), some ((eLst D.int) p, Own.lst Own.no), some (D.int x549, Own.no), some (D.int p773, Own.no)]) (ys := fun b => s548.2) (y := fun b => b) (e := D.int) (c := Own.no) (x0 := (.non, Own.no)) (T := fun b zs => zs) h774 ⟨_, _, rfl⟩ (LA.done (LA.comp (enc := fun (p : Int) => (D.int p, Own.no)) (sp := fun _ => [some (D.int a0, Own.no), some (D.int a1, Own.no), some (D.int a2, Own.no), some (D.bl p539, Own.no), some (D.int s548.1, Own.no), some ((eLst D.int) s548.2, Own.lst Own.no), some (D.int x549, Own.no), some (D.int p773, Own.no)]) (LK.bind (enc := fun (p : Int) => (D.int p, Own.no)) (sp := fun _ => [some (D.int a0, Own.no), some (D.int a1, Own.no), some (D.int a2, Own.no), some (D.bl p539, Own.no), some (D.int s548.1, Own.no), some ((eLst D.int) s548.2, Own.lst Own.no), some (D.int x549, Own.no), some (D.int p773, Own.no)]) (LK.bind (enc := fun (q : Int) => [(D.int q, Own.no)]) (sp := fun _ => [some (D.int a0, Own.no), some (D.int a1, Own.no), some (D.int a2, Own.no), some (D.bl p539, Own.no), some (D.int s548.1, Own.no), some ((eLst D.int) s548.2, Own.lst Own.no), some (D.int x549, Own.no), some (D.int p773, Own.no)]) (LA.done (LA.comp (enc := fun (p : Int) => (D.int p, Own.no)) (sp := fun _ => [some (D.int a0, Own.no), some (D.int a1, Own.no), some (D.int a2, Own.no), some (D.bl p539, Own.no), some (D.int s548.1, Own.no), some ((eLst D.int) s548.2, Own.lst Own.no), some (D.int x549, Own.no), some (D.int p773, Own.no)]) (LK.pure (pnF 7 h774 rfl) (LK.pure rfl (LK.po (po_div (p773) ((5 : Int))) h774))) fun p789 ρ h790 => (LA.nil h790))) fun p791 ρ h792 => (LK.of rfl h792)) fun p793 ρ h794 => (LK.pure rfl (LK.of (o_mod _ _ (by decide)) h794))) fun p795 ρ h796 => (LA.nil h796))) (fun b => rfl) (fun b => rfl) rfl (fun _ _ => rfl)) fun p799 ρ h800 => (LS.nx (a := (s548.1, p799)) (h800.weak (.keep (.keep (.keep (.keep (.keep (.keep (.skip (.skip Le.nil))))))))))))))))))) fun s801 ρ h802 => (LS.take (a := s801.2) h802 rfl fun _ _ => trivial)))))
theorem lk_law_alphabet (a0 : (List Int)) (a1 : Int) (a2 : Int) : LF (r_law_alphabet [((eLst D.int) a0, Own.no), (D.int a1, Own.no), (D.int a2, Own.no)]) (t_law_alphabet a0 a1 a2) (fun r => (D.str r, Own.no)) :=
  LF.run0 (s := [some ((eLst D.int) a0, Own.no), some (D.int a1, Own.no), some (D.int a2, Own.no), none, none, none, none]) (fun _ => rfl) rfl fun h0 => (LS.setp h0 rfl fun ρ h949 => (LS.set (enc := fun (p : Str) => (D.str p, Own.no)) (sp := fun _ => [some ((eLst D.int) a0, Own.no), some (D.int a1, Own.no), some (D.int a2, Own.no), some (D.str (Str.ofString " !\"#$&'()*+,-./0123456789:;<=>?@ABCDEFGHIJKLMNOPQRSTUVWXYZ[\\]^_"), Own.no), none, none, none]) (LK.frz (e := fun p => D.str p) (o := fun _ => Own.no) (LK.pure (pnF 3 h949 rfl) (LK.pure rfl (LK.po (po_addS ((Str.ofString " !\"#$&'()*+,-./0123456789:;<=>?@ABCDEFGHIJKLMNOPQRSTUVWXYZ[\\]^_")) ((Str.ofString "`abcdefghijklmnopqrstuvwxyz{|}~"))) h949)))) fun p950 ρ h951 => (LS.setp h951 (pLst pNil ⟨rfl, small rfl⟩) fun ρ h952 => (LS.seq (sn := fun (s : (List Str)) => [some ((eLst D.int) a0, Own.no), some (D.int a1, Own.no), some (D.int a2, Own.no), some (D.str p950, Own.no), some ((eLst D.str) s, Own.lst Own.no), none, none]) (LS.for_ (encx := D.int) (sh := fun (s955 : (List Str)) => [some ((eLst D.int) a0, Own.no), some (D.int a1, Own.no), some (D.int a2, Own.no), some (D.str p950, Own.no), some ((eLst D.str) s955, Own.lst Own.no), none, none]) (sb := fun (x956 : Int) (s955 : (List Str)) => [some ((eLst D.int) a0, Own.no), some (D.int a1, Own.no), some (D.int a2, Own.no), some (D.str p950, Own.no), some ((eLst D.str) s955, Own.lst Own.no), some (D.int x956, Own.no), none]) (step := (t_law_alphabet_l0 a0 a1 p950)) (sp := fun _ => [some ((eLst D.int) a0, Own.no), some (D.int a1, Own.no), some (D.int a2, Own.no), some (D.str p950, Own.no), some ((eLst D.str) [], Own.lst Own.no), none, none]) (xs := fun (p953 : (List Int)) => p953) (a := fun (p953 : (List Int)) => []) (LK.range1 (pCons (pnF 2 h952 rfl) pNil) h952) (fun p953 ρ h => h.weak (.keep (.keep (.keep (.keep (.keep (.skip (.skip Le.nil)))))))) (fun x956 s955 ρ h => ⟨_, rfl, (h.set 5 _)⟩) (fun x956 s955 ρ h957 => (LS.set (enc := fun (p : Str) => (D.str p, Own.no)) (sp := fun _ => [some ((eLst D.int) a0, Own.no), some (D.int a1, Own.no), some (D.int a2, Own.no), some (D.str p950, Own.no), some ((eLst D.str) s955, Own.lst Own.no), some (D.int x956, Own.no), none]) (LK.pure (pnF 3 h957 rfl) (LK.bind (enc := fun (p : Int) => (D.int p, Own.no)) (sp := fun _ => [some ((eLst D.int) a0, Own.no), some (D.int a1, Own.no), some (D.int a2, Own.no), some (D.str p950, Own.no), some ((eLst D.str) s955, Own.lst Own.no), some (D.int x956, Own.no), none]) (LK.bind (enc := fun (p : Int) => (D.int p, Own.no)) (sp := fun _ => [some ((eLst D.int) a0, Own.no), some (D.int a1, Own.no), some (D.int a2, Own.no), some (D.str p950, Own.no), some ((eLst D.str) s955, Own.lst Own.no), some (D.int x956, Own.no), none]) (LK.bind (enc := fun (q : Int) => [(D.int q, Own.no)]) (sp := fun _ => [some ((eLst D.int) a0, Own.no), some (D.int a1, Own.no), some (D.int a2, Own.no), some (D.str p950, Own.no), some ((eLst D.str) s955, Own.lst Own.no), some (D.int x956, Own.no), none]) (LA.done (LA.comp (enc := fun (p : Int) => (D.int p, Own.no)) (sp := fun _ => [some ((eLst D.int) a0, Own.no), some (D.int a1, Own.no), some (D.int a2, Own.no), some (D.str p950, Own.no), some ((eLst D.str) s955, Own.lst Own.no), some (D.int x956, Own.no), none]) (LK.pure (pnF 0 h957 rfl) (LK.pure (p2 (pnF 1 h957 rfl) (pnF 5 h957 rfl) rfl) (LK.po (po_ixL (e := D.int) (o := Own.no) (a0) ((a1 + x956))) h957))) fun p974 ρ h975 => (LA.nil h975))) fun p976 ρ h977 => (LK.of rfl h977)) fun p978 ρ h979 => (LK.bind (enc := fun (p : Int) => (D.int p, Own.no)) (sp := fun _ => [some ((eLst D.int) a0, Own.no), some (D.int a1, Own.no), some (D.int a2, Own.no), some (D.str p950, Own.no), some ((eLst D.str) s955, Own.lst Own.no), some (D.int x956, Own.no), none]) (LK.pure (pCons (pnF 3 h979 rfl) pNil) (LK.po (po_lenS _) h979)) fun p980 ρ h981 => (LK.po (po_mod (p978) (p980)) h981))) fun p982 ρ h983 => (LK.po (po_ixS (p950) (p982)) h983))) fun p984 ρ h985 => (LS.ifp (pBool (p2 (pnF 6 h985 rfl) (pn 4 h985 rfl) (in_strs true (p984) (s955)))) (fun _ => (LS.last (LS.drop (enc := fun _ => (D.non, Own.no)) (sp := fun (p : (List Str)) => [some ((eLst D.int) a0, Own.no), some (D.int a1, Own.no), some (D.int a2, Own.no), some (D.str p950, Own.no), some ((eLst D.str) p, Own.lst Own.no), some (D.int x956, Own.no), some (D.str p984, Own.no)]) (LK.append (e := D.str) h985 (pCons (pnF 6 h985 rfl) pNil) rfl rfl rfl) fun p986 ρ h987 => (LS.nx (a := p986) (h987.weak (.keep (.keep (.keep (.keep (.keep (.skip (.skip Le.nil)))))))))))) (fun _ => (LS.nx (a := s955) (h985.weak (.keep (.keep (.keep (.keep (.keep (.skip (.skip Le.nil)))))))))))))) fun s988 ρ h989 => (LS.ret (enc := fun (p : Str) => (D.str p, Own.no)) (sp := fun _ => [some ((eLst D.int) a0, Own.no), some (D.int a1, Own.no), some (D.int a2, Own.no), some (D.str p950, Own.no), some ((eLst D.str) s988, Own.lst Own.no), none, none]) (k := fun p => p) (LK.pure rfl (LK.bind (enc := fun (q : (List Str)) => [((eLst D.str) q, Own.lst Own.no)]) (sp := fun _ => [some ((eLst D.int) a0, Own.no), some (D.int a1, Own.no), some (D.int a2, Own.no), some (D.str p950, Own.no), some ((eLst D.str) s988, Own.lst Own.no), none, none]) (LA.done (LA.comp (enc := fun (p : (List Str)) => ((eLst D.str) p, Own.lst Own.no)) (sp := fun _ => [some ((eLst D.int) a0, Own.no), some (D.int a1, Own.no), some (D.int a2, Own.no), some (D.str p950, Own.no), some ((eLst D.str) s988, Own.lst Own.no), none, none]) (LK.pure (pCons (pn 4 h989 rfl) pNil) (LK.po (po_sortS _) h989)) fun p990 ρ h991 => (LA.nil h991))) fun p992 ρ h993 => (LK.po (po_joinL _ _) h993))) (fun _ => rfl) (fun _ _ _ => trivial))))))
theorem lk_law_letters (a0 : Str) (a1 : Str) : LF (r_law_letters [(D.str a0, Own.no), (D.str a1, Own.no)]) (t_law_letters a0 a1) (fun r => ((eLst D.int) r, Own.lst Own.no)) :=
  LF.run0 (s := [some (D.str a0, Own.no), some (D.str a1, Own.no), none]) (fun x => idt_lst (fun _ => rfl) x) rfl fun h0 => (LS.ret (enc := fun (p : (List Int)) => ((eLst D.int) p, Own.lst Own.no)) (sp := fun _ => [some (D.str a0, Own.no), some (D.str a1, Own.no), none]) (k := fun p => p) (LK.lc1 (vs := [2]) (encx := D.str) (e := D.int) (pItems (pnF 1 h0 rfl) rfl) h0 rfl (fun x1604 ρ h1605 => ⟨_, rfl, (h1605.set 2 _)⟩) (fun x1604 ρ h1605 => (LK.of (enc := id) rfl h1605)) (fun x1604 ρ h1605 => (LK.pure (pnF 0 h1605 rfl) (LK.pure (pCons (pnF 2 h1605 rfl) pNil) (LK.po (po_index _ _) h1605)))) (fun _ => rfl) rfl rfl (wipe_hv rfl)) (fun _ => rfl) (fun _ _ _ => trivial))
theorem lk_law_join_all (a0 : (List Int)) (a1 : (Int × Int)) (a2 : Int) : LF (r_law_join_all [((eLst D.int) a0, Own.no), ((eP2 D.int D.int) a1, Own.no), (D.int a2, Own.no)]) (t_law_join_all a0 a1 a2) (fun r => ((eLst D.int) r, Own.lst Own.no)) :=
  LF.run0 (s := [some ((eLst D.int) a0, Own.no), some ((eP2 D.int D.int) a1, Own.no), some (D.int a2, Own.no), none, none, none]) (fun x => idt_lst (fun _ => rfl) x) rfl fun h0 => (LS.setp h0 (pLst pNil ⟨rfl, small rfl⟩) fun ρ h1714 => (LS.setp h1714 rfl fun ρ h1715 => (LS.seq (sn := fun (s : ((List Int) × Bool)) => [some ((eLst D.int) a0, Own.no), some ((eP2 D.int D.int) a1, Own.no), some (D.int a2, Own.no), some ((eLst D.int) s.1, Own.lst Own.no), some (D.bl s.2, Own.no), none]) (LS.for_ (encx := D.int) (sh := fun (s1718 : ((List Int) × Bool)) => [some ((eLst D.int) a0, Own.no), some ((eP2 D.int D.int) a1, Own.no), some (D.int a2, Own.no), some ((eLst D.int) s1718.1, Own.lst Own.no), some (D.bl s1718.2, Own.no), none]) (sb := fun (x1719 : Int) (s1718 : ((List Int) × Bool)) => [some ((eLst D.int) a0, Own.no), some ((eP2 D.int D.int) a1, Own.no), some (D.int a2, Own.no), some ((eLst D.int) s1718.1, Own.lst Own.no), some (D.bl s1718.2, Own.no), some (D.int x1719, Own.no)]) (step := (t_law_join_all_l0 a0 a1 a2)) (sp := fun _ => [some ((eLst D.int) a0, Own.no), some ((eP2 D.int D.int) a1, Own.no), some (D.int a2, Own.no), some ((eLst D.int) [], Own.lst Own.no), some (D.bl false, Own.no), none]) (xs := fun (p1716 : (List Int)) => p1716) (a := fun (p1716 : (List Int)) => ([], false)) (LK.range1 (pCons (pCall (pCons (pnF 0 h1715 rfl) pNil) (len_L (e := D.int) _)) pNil) h1715) (fun p1716 ρ h => h.weak (.keep (.keep (.keep (.keep (.keep (.skip Le.nil))))))) (fun x1719 s1718 ρ h => ⟨_, rfl, (h.set 5 _)⟩) (fun x1719 s1718 ρ h1720 => (LS.ifp (pTru (pnF 4 h1720 rfl) rfl) (fun _ => (LS.last (LS.setp h1720 rfl fun ρ h1721 => (LS.nx (a := (s1718.1, false)) (h1721.weak (.keep (.keep (.keep (.keep (.keep (.skip Le.nil))))))))))) (fun _ => (LS.if_ (enc := id) (sp := fun _ => [some ((eLst D.int) a0, Own.no), some ((eP2 D.int D.int) a1, Own.no), some (D.int a2, Own.no), some ((eLst D.int) s1718.1, Own.lst Own.no), some (D.bl s1718.2, Own.no), some (D.int x1719, Own.no)]) (LK.andT (LK.of (enc := id) (pBool (p2 (p2 (pnF 5 h1720 rfl) rfl rfl) (pCall (pCons (pnF 0 h1720 rfl) pNil) (len_L (e := D.int) _)) rfl)) h1720) fun ρ h1736 => (LK.bool (b := fun p => p) (o := fun _ => Own.no) (LK.bind (enc := fun (p : (Int × Int)) => ((eP2 D.int D.int) p, Own.no)) (sp := fun _ => [some ((eLst D.int) a0, Own.no), some ((eP2 D.int D.int) a1, Own.no), some (D.int a2, Own.no), some ((eLst D.int) s1718.1, Own.lst Own.no), some (D.bl s1718.2, Own.no), some (D.int x1719, Own.no)]) (LK.bind (enc := fun (q : (Int × Int)) => [(D.int q.1, Own.no), (D.int q.2, Own.no)]) (sp := fun _ => [some ((eLst D.int) a0, Own.no), some ((eP2 D.int D.int) a1, Own.no), some (D.int a2, Own.no), some ((eLst D.int) s1718.1, Own.lst Own.no), some (D.bl s1718.2, Own.no), some (D.int x1719, Own.no)]) (LA.done (LA.comp (enc := fun (p : Int) => (D.int p, Own.no)) (sp := fun _ => [some ((eLst D.int) a0, Own.no), some ((eP2 D.int D.int) a1, Own.no), some (D.int a2, Own.no), some ((eLst D.int) s1718.1, Own.lst Own.no), some (D.bl s1718.2, Own.no), some (D.int x1719, Own.no)]) (LK.pure (pnF 0 h1736 rfl) (LK.pure (pnF 5 h1736 rfl) (LK.po (po_ixL (e := D.int) (o := Own.no) (a0) (x1719)) h1736))) fun p1743 ρ h1744 => (LA.comp (enc := fun (p : Int) => (D.int p, Own.no)) (sp := fun _ => [some ((eLst D.int) a0, Own.no), some ((eP2 D.int D.int) a1, Own.no), some (D.int a2, Own.no), some ((eLst D.int) s1718.1, Own.lst Own.no), some (D.bl s1718.2, Own.no), some (D.int x1719, Own.no)]) (LK.pure (pnF 0 h1744 rfl) (LK.pure (p2 (pnF 5 h1744 rfl) rfl rfl) (LK.po (po_ixL (e := D.int) (o := Own.no) (a0) ((x1719 + (1 : Int)))) h1744))) fun p1745 ρ h1746 => (LA.nil h1746)))) fun p1747 ρ h1748 => (LK.of (by first | rfl | exact if_pos ⟨rfl, small rfl⟩) h1748)) fun p1749 ρ h1750 => (LK.pure (pnF 1 h1750 rfl) (LK.of (pu_eq (e := (eP2 D.int D.int)) (eqe_p2T eqe_int eqe_int) (p1749) (a1)) h1750))))) (fun p1751 ρ h1752 _ => (LS.drop (enc := fun _ => (D.non, Own.no)) (sp := fun (p : (List Int)) => [some ((eLst D.int) a0, Own.no), some ((eP2 D.int D.int) a1, Own.no), some (D.int a2, Own.no), some ((eLst D.int) p, Own.lst Own.no), some (D.bl s1718.2, Own.no), some (D.int x1719, Own.no)]) (LK.append (e := D.int) h1752 (pCons (pnF 2 h1752 rfl) pNil) rfl rfl rfl) fun p1753 ρ h1754 => (LS.last (LS.setp h1754 rfl fun ρ h1755 => (LS.nx (a := (p1753, true)) (h1755.weak (.keep (.keep (.keep (.keep (.keep (.skip Le.nil)))))))))))) (fun p1751 ρ h1752 _ => (LS.last (LS.drop (enc := fun _ => (D.non, Own.no)) (sp := fun (p : (List Int)) => [some ((eLst D.int) a0, Own.no), some ((eP2 D.int D.int) a1, Own.no), some (D.int a2, Own.no), some ((eLst D.int) p, Own.lst Own.no), some (D.bl s1718.2, Own.no), some (D.int x1719, Own.no)]) (LK.appendc (encs := fun (q : Int) => [(D.int q, Own.no)]) (sp := fun _ => [some ((eLst D.int) a0, Own.no), some ((eP2 D.int D.int) a1, Own.no), some (D.int a2, Own.no), some ((eLst D.int) s1718.1, Own.lst Own.no), some (D.bl s1718.2, Own.no), some (D.int x1719, Own.no)]) (sp' := fun p => [some ((eLst D.int) a0, Own.no), some ((eP2 D.int D.int) a1, Own.no), some (D.int a2, Own.no), some ((eLst D.int) p, Own.lst Own.no), some (D.bl s1718.2, Own.no), some (D.int x1719, Own.no)]) (ys := fun b => s1718.1) (y := fun b => b) (e := D.int) (c := Own.no) (x0 := (.non, Own.no)) (T := fun b zs => zs) h1752 ⟨_, _, rfl⟩ (LA.done (LA.comp (enc := fun (p : Int) => (D.int p, Own.no)) (sp := fun _ => [some ((eLst D.int) a0, Own.no), some ((eP2 D.int D.int) a1, Own.no), some (D.int a2, Own.no), some ((eLst D.int) s1718.1, Own.lst Own.no), some (D.bl s1718.2, Own.no), some (D.int x1719, Own.no)]) (LK.pure (pnF 0 h1752 rfl) (LK.pure (pnF 5 h1752 rfl) (LK.po (po_ixL (e := D.int) (o := Own.no) (a0) (x1719)) h1752))) fun p1756 ρ h1757 => (LA.nil h1757))) (fun b => rfl) (fun b => rfl) rfl (fun _ _ => rfl)) fun p1760 ρ h1761 => (LS.nx (a := (p1760, s1718.2)) (h1761.weak (.keep (.keep (.keep (.keep (.keep (.skip Le.nil)))))))))))))))) fun s1762 ρ h1763 => (LS.take (a := s1762.1) h1763 rfl fun _ _ => trivial))))
theorem lk_law_staged (a0 : Int) (a1 : (List (Int × Int))) (a2 : (List Int)) : LFm 0 (r_law_staged [(D.int a0, Own.no), ((eLst (eP2 D.int D.int)) a1, Own.no), ((eLst D.int) a2, Own.no)]) (t_law_staged a0 a1 a2) (fun r => ((eLst D.int) r, Own.no)) (fun _ => []) :=
  LFm.runZ0 (s := [some (D.int a0, Own.no), some ((eLst (eP2 D.int D.int)) a1, Own.no), some ((eLst D.int) a2, Own.no), none]) rfl fun h0 => (LS.seq (sn := fun (s : (List Int)) => [some (D.int a0, Own.no), some ((eLst (eP2 D.int D.int)) a1, Own.no), some ((eLst D.int) s, Own.no), none]) (LS.for_ (encx := D.int) (sh := fun (s1642 : (List Int)) => [some (D.int a0, Own.no), some ((eLst (eP2 D.int D.int)) a1, Own.no), some ((eLst D.int) s1642, Own.no), none]) (sb := fun (x1643 : Int) (s1642 : (List Int)) => [some (D.int a0, Own.no), some ((eLst (eP2 D.int D.int)) a1, Own.no), some ((eLst D.int) s1642, Own.no), some (D.int x1643, Own.no)]) (step := (t_law_staged_l0 a0 a1)) (sp := fun _ => [some (D.int a0, Own.no), some ((eLst (eP2 D.int D.int)) a1, Own.no), some ((eLst D.int) a2, Own.no), none]) (xs := fun (p1640 : (List Int)) => p1640) (a := fun (p1640 : (List Int)) => a2) (LK.range1 (pCons (pCall (pCons (pnF 1 h0 rfl) pNil) (len_L (e := (eP2 D.int D.int)) _)) pNil) h0) (fun p1640 ρ h => h.weak (.keep (.keep (.keep (.skip Le.nil))))) (fun x1643 s1642 ρ h => ⟨_, rfl, (h.set 3 _)⟩) (fun x1643 s1642 ρ h1644 => (LS.last (LS.set (enc := fun (p : (List Int)) => ((eLst D.int) p, Own.no)) (sp := fun _ => [some (D.int a0, Own.no), some ((eLst (eP2 D.int D.int)) a1, Own.no), some ((eLst D.int) s1642, Own.no), some (D.int x1643, Own.no)]) (LK.frz (e := fun p => (eLst D.int) p) (o := fun _ => Own.lst Own.no) (LK.callBc (encs := fun (q : (Int × Int)) => [((eLst D.int) s1642, Own.no), ((eP2 D.int D.int) q, Own.no), (D.int (a0 + x1643), Own.no)]) (sp := fun _ => [some (D.int a0, Own.no), some ((eLst (eP2 D.int D.int)) a1, Own.no), some ((eLst D.int) s1642, Own.no), some (D.int x1643, Own.no)]) (sp' := fun _ => [some (D.int a0, Own.no), some ((eLst (eP2 D.int D.int)) a1, Own.no), some ((eLst D.int) s1642, Own.no), some (D.int x1643, Own.no)]) (T := fun (b : (Int × Int)) (a : (List Int)) => a) (enc' := fun (p : (List Int)) => ((eLst D.int) p, Own.lst Own.no)) (LA.done (LA.pure (pnF 2 h1644 rfl) (LA.comp (enc := fun (p : (Int × Int)) => ((eP2 D.int D.int) p, Own.no)) (sp := fun _ => [some (D.int a0, Own.no), some ((eLst (eP2 D.int D.int)) a1, Own.no), some ((eLst D.int) s1642, Own.no), some (D.int x1643, Own.no)]) (LK.pure (pnF 1 h1644 rfl) (LK.pure (pnF 3 h1644 rfl) (LK.po (po_ixL (e := (eP2 D.int D.int)) (o := Own.no) (a1) (x1643)) h1644))) fun p1645 ρ h1646 => (LA.pure (p2 (pnF 0 h1646 rfl) (pnF 3 h1646 rfl) rfl) (LA.nil h1646))))) (fun (b : (Int × Int)) => lk_law_join_all s1642 b (a0 + x1643)) (fun b ρ hb => trivial) (fun _ _ => rfl) (fun _ _ => rfl))) fun p1651 ρ h1652 => (LS.nx (a := p1651) (h1652.weak (.keep (.keep (.keep (.skip Le.nil)))))))))) fun s1653 ρ h1654 => (LS.retp (a := s1653) (pnF 2 h1654 rfl) trivial))
theorem lk_law_is_proper (a0 : Str) (a1 : (List Str)) (a2 : (List (Int × Int))) (a3 : (Int × Int)) : LF (r_law_is_proper [(D.str a0, Own.no), ((eLst D.str) a1, Own.no), ((eLst (eP2 D.int D.int)) a2, Own.no), ((eP2 D.int D.int) a3, Own.no)]) (t_law_is_proper a0 a1 a2 a3) (fun r => (D.bl r, Own.no)) :=
  LF.run0 (s := [some (D.str a0, Own.no), some ((eLst D.str) a1, Own.no), some ((eLst (eP2 D.int D.int)) a2, Own.no), some ((eP2 D.int D.int) a3, Own.no), none, none]) (fun _ => rfl) rfl fun h0 => (LS.seq (sn := fun (s : Unit) => [some (D.str a0, Own.no), some ((eLst D.str) a1, Own.no), some ((eLst (eP2 D.int D.int)) a2, Own.no), some ((eP2 D.int D.int) a3, Own.no), none, none]) (LS.forp (encx := D.int) (sh := fun (s1698 : Unit) => [some (D.str a0, Own.no), some ((eLst D.str) a1, Own.no), some ((eLst (eP2 D.int D.int)) a2, Own.no), some ((eP2 D.int D.int) a3, Own.no), none, none]) (sb := fun (x1699 : Int) (s1698 : Unit) => [some (D.str a0, Own.no), some ((eLst D.str) a1, Own.no), some ((eLst (eP2 D.int D.int)) a2, Own.no), some ((eP2 D.int D.int) a3, Own.no), some (D.int x1699, Own.no), none]) (step := (t_law_is_proper_l0 a1)) (a := ()) (pItems (pnF 3 h0 rfl) rfl) (h0.weak (.keep (.keep (.keep (.keep (.skip (.skip Le.nil))))))) (fun x1699 s1698 ρ h => ⟨_, rfl, (h.set 4 _)⟩) (fun x1699 s1698 ρ h1700 => (LS.ifp (pNotT (pBool (p3 rfl (pnF 4 h1700 rfl) (pCall (pCons (pnF 1 h1700 rfl) pNil) (len_L (e := D.str) _)) rfl rfl))) (fun _ => (LS.retp (a := false) rfl trivial)) (fun _ => (LS.nx (a := ()) (h1700.weak (.keep (.keep (.keep (.keep (.skip (.skip Le.nil)))))))))))) fun s1701 ρ h1702 => (LS.set (enc := fun (p : Str) => (D.str p, Own.no)) (sp := fun _ => [some (D.str a0, Own.no), some ((eLst D.str) a1, Own.no), some ((eLst (eP2 D.int D.int)) a2, Own.no), some ((eP2 D.int D.int) a3, Own.no), none, none]) (LK.frz (e := fun p => D.str p) (o := fun _ => Own.no) (LK.bind (enc := fun (p : Str) => (D.str p, Own.no)) (sp := fun _ => [some (D.str a0, Own.no), some ((eLst D.str) a1, Own.no), some ((eLst (eP2 D.int D.int)) a2, Own.no), some ((eP2 D.int D.int) a3, Own.no), none, none]) (LK.pure (pnF 1 h1702 rfl) (LK.pure (p2 (pnF 3 h1702 rfl) rfl rfl) (LK.po (po_ixL (e := D.str) (o := Own.no) (a1) (a3.1)) h1702))) fun p1703 ρ h1704 => (LK.bind (enc := fun (p : Str) => (D.str p, Own.no)) (sp := fun _ => [some (D.str a0, Own.no), some ((eLst D.str) a1, Own.no), some ((eLst (eP2 D.int D.int)) a2, Own.no), some ((eP2 D.int D.int) a3, Own.no), none, none]) (LK.pure (pnF 1 h1704 rfl) (LK.pure (p2 (pnF 3 h1704 rfl) rfl rfl) (LK.po (po_ixL (e := D.str) (o := Own.no) (a1) (a3.2)) h1704))) fun p1705 ρ h1706 => (LK.po (po_addS (p1703) (p1705)) h1706)))) fun p1707 ρ h1708 => (LS.if_seq (LS.if_ (enc := fun (p : Bool) => p) (sp := fun _ => [some (D.str a0, Own.no), some ((eLst D.str) a1, Own.no), some ((eLst (eP2 D.int D.int)) a2, Own.no), some ((eP2 D.int D.int) a3, Own.no), none, some (D.str p1707, Own.no)]) (LK.bool (b := fun p => p) (o := fun _ => Own.no) (LK.bind (enc := fun (p : Int) => (D.int p, Own.no)) (sp := fun _ => [some (D.str a0, Own.no), some ((eLst D.str) a1, Own.no), some ((eLst (eP2 D.int D.int)) a2, Own.no), some ((eP2 D.int D.int) a3, Own.no), none, some (D.str p1707, Own.no)]) (LK.pure (pCons (pnF 5 h1708 rfl) pNil) (LK.po (po_lenS _) h1708)) fun p1709 ρ h1710 => (LK.pure rfl (LK.of rfl h1710)))) (fun p1711 ρ h1712 _ => (LS.ret_seq (LS.retp (a := false) rfl trivial))) (fun p1711 ρ h1712 _ => (LS.pass (LS.ret (enc := fun (p : Bool) => (D.bl p, Own.no)) (sp := fun _ => [some (D.str a0, Own.no), some ((eLst D.str) a1, Own.no), some ((eLst (eP2 D.int D.int)) a2, Own.no), some ((eP2 D.int D.int) a3, Own.no), none, some (D.str p1707, Own.no)]) (k := fun p => p) (LK.bind (enc := fun (p : (List Int)) => ((eLst D.int) p, Own.no)) (sp := fun _ => [some (D.str a0, Own.no), some ((eLst D.str) a1, Own.no), some ((eLst (eP2 D.int D.int)) a2, Own.no), some ((eP2 D.int D.int) a3, Own.no), none, some (D.str p1707, Own.no)]) (LK.callFc (sl := [none, none, none]) (encs := fun (q : (Int × (List Int))) => [(D.int q.1, Own.no), ((eLst (eP2 D.int D.int)) a2, Own.no), ((eLst D.int) q.2, Own.no)]) (sp := fun _ => [some (D.str a0, Own.no), some ((eLst D.str) a1, Own.no), some ((eLst (eP2 D.int D.int)) a2, Own.no), some ((eP2 D.int D.int) a3, Own.no), none, some (D.str p1707, Own.no)]) (sp2 := fun _ => [some (D.str a0, Own.no), some ((eLst D.str) a1, Own.no), some ((eLst (eP2 D.int D.int)) a2, Own.no), some ((eP2 D.int D.int) a3, Own.no), none, some (D.str p1707, Own.no)]) (sp' := fun _ => [some (D.str a0, Own.no), some ((eLst D.str) a1, Own.no), some ((eLst (eP2 D.int D.int)) a2, Own.no), some ((eP2 D.int D.int) a3, Own.no), none, some (D.str p1707, Own.no)]) (ms := fun _ _ => []) (T := fun b a => a) (enc' := fun p => ((eLst D.int) p, Own.no)) (LA.done (LA.comp (enc := fun (p : Int) => (D.int p, Own.no)) (sp := fun _ => [some (D.str a0, Own.no), some ((eLst D.str) a1, Own.no), some ((eLst (eP2 D.int D.int)) a2, Own.no), some ((eP2 D.int D.int) a3, Own.no), none, some (D.str p1707, Own.no)]) (LK.pure (pCons (pnF 0 h1712 rfl) pNil) (LK.po (po_lenS _) h1712)) fun p1719 ρ h1720 => (LA.pure (pnF 2 h1720 rfl) (LA.comp (enc := fun (p : (List Int)) => ((eLst D.int) p, Own.no)) (sp := fun _ => [some (D.str a0, Own.no), some ((eLst D.str) a1, Own.no), some ((eLst (eP2 D.int D.int)) a2, Own.no), some ((eP2 D.int D.int) a3, Own.no), none, some (D.str p1707, Own.no)]) (LK.frz (e := fun p => (eLst D.int) p) (o := fun _ => Own.lst Own.no) (LK.callB (pCons (pnF 0 h1720 rfl) (pCons (pnF 5 h1720 rfl) pNil)) h1720 trivial (lk_law_letters a0 p1707))) fun p1721 ρ h1722 => (LA.nil h1722))))) (fun b => rfl) (fun b => (lk_law_staged b.1 a2 b.2)) (fun b ρ h m hm => trivial) (fun _ _ => rfl) (fun _ _ => rfl)) fun p1725 ρ h1726 => (LK.pure (pLst (pCons (p2 (pnF 3 h1726 rfl) rfl rfl) (pCons (p2 (pnF 3 h1726 rfl) rfl rfl) pNil)) ⟨rfl, small rfl⟩) (LK.of (pu_eq (e := (eLst D.int)) (eqe_lstT eqe_int) (p1725) ([a3.1, a3.2])) h1726))) (fun _ => rfl) (fun _ _ _ => trivial))))))))
theorem lk_law_pairs (a0 : (List Int)) (a1 : Str) : LF (r_law_pairs [((eLst D.int) a0, Own.no), (D.str a1, Own.no)]) (t_law_pairs a0 a1) (fun r => ((eLst (eP2 D.int D.int)) r, Own.lst Own.no)) :=
  LF.run0 (s := [some ((eLst D.int) a0, Own.no), some (D.str a1, Own.no), none, none, none, none, none, none, none, none]) (fun x => idt_lst (fun x => idt_p2 (fun _ => rfl) (fun _ => rfl) x _) x) rfl fun h0 => (LS.setp h0 (pLst pNil ⟨rfl, small rfl⟩) fun ρ h2548 => (LS.set (enc := fun (p : (List Str)) => ((eLst D.str) p, Own.lst Own.no)) (sp := fun _ => [some ((eLst D.int) a0, Own.no), some (D.str a1, Own.no), some ((eLst (eP2 D.int D.int)) [], Own.lst Own.no), none, none, none, none, none, none, none]) (LK.pure (pCons (pnF 1 h2548 rfl) pNil) (LK.po (po_listS _) h2548)) fun p2549 ρ h2550 => (LS.seq (sn := fun (s : ((List (Int × Int)) × (List Str))) => [some ((eLst D.int) a0, Own.no), some (D.str a1, Own.no), some ((eLst (eP2 D.int D.int)) s.1, Own.lst Own.no), some ((eLst D.str) s.2, Own.lst Own.no), none, none, none, none, none, none]) (LS.for_ (encx := D.int) (sh := fun (s2577 : ((List (Int × Int)) × (List Str))) => [some ((eLst D.int) a0, Own.no), some (D.str a1, Own.no), some ((eLst (eP2 D.int D.int)) s2577.1, Own.lst Own.no), some ((eLst D.str) s2577.2, Own.lst Own.no), none, none, none, none, none, none]) (sb := fun (x2578 : Int) (s2577 : ((List (Int × Int)) × (List Str))) => [some ((eLst D.int) a0, Own.no), some (D.str a1, Own.no), some ((eLst (eP2 D.int D.int)) s2577.1, Own.lst Own.no), some ((eLst D.str) s2577.2, Own.lst Own.no), some (D.int x2578, Own.no), none, none, none, none, none]) (step := (t_law_pairs_l0 a0 a1)) (sp := fun _ => [some ((eLst D.int) a0, Own.no), some (D.str a1, Own.no), some ((eLst (eP2 D.int D.int)) [], Own.lst Own.no), some ((eLst D.str) p2549, Own.lst Own.no), none, none, none, none, none, none]) (xs := fun (p2575 : (List Int)) => p2575) (a := fun (p2575 : (List Int)) => ([], p2549)) (LK.bind (enc := fun (q : Int) => [(D.int q, Own.no)]) (sp := fun _ => [some ((eLst D.int) a0, Own.no), some (D.str a1, Own.no), some ((eLst (eP2 D.int D.int)) [], Own.lst Own.no), some ((eLst D.str) p2549, Own.lst Own.no), none, none, none, none, none, none]) (LA.done (LA.comp (enc := fun (p : Int) => (D.int p, Own.no)) (sp := fun _ => [some ((eLst D.int) a0, Own.no), some (D.str a1, Own.no), some ((eLst (eP2 D.int D.int)) [], Own.lst Own.no), some ((eLst D.str) p2549, Own.lst Own.no), none, none, none, none, none, none]) (LK.bind (enc := fun (p : Int) => (D.int p, Own.no)) (sp := fun _ => [some ((eLst D.int) a0, Own.no), some (D.str a1, Own.no), some ((eLst (eP2 D.int D.int)) [], Own.lst Own.no), some ((eLst D.str) p2549, Own.lst Own.no), none, none, none, none, none, none]) (LK.bind (enc := fun (q : Int) => [(D.int q, Own.no)]) (sp := fun _ => [some ((eLst D.int) a0, Own.no), some (D.str a1, Own.no), some ((eLst (eP2 D.int D.int)) [], Own.lst Own.no), some ((eLst D.str) p2549, Own.lst Own.no), none, none, none, none, none, none]) (LA.done (LA.comp (enc := fun (p : Int) => (D.int p, Own.no)) (sp := fun _ => [some ((eLst D.int) a0, Own.no), some (D.str a1, Own.no), some ((eLst (eP2 D.int D.int)) [], Own.lst Own.no), some ((eLst D.str) p2549, Own.lst Own.no), none, none, none, none, none, none]) (LK.pure (pnF 0 h2550 rfl) (LK.pure rfl (LK.po (po_ixL (e := D.int) (o := Own.no) (a0) ((2 : Int))) h2550))) fun p2565 ρ h2566 => (LA.nil h2566))) fun p2567 ρ h2568 => (LK.of rfl h2568)) fun p2569 ρ h2570 => (LK.pure rfl (LK.of (o_mod _ _ (by decide)) h2570))) fun p2571 ρ h2572 => (LA.nil h2572))) fun p2573 ρ h2574 => LK.po (range1_k _ ) h2574) (fun p2575 ρ h => h.weak (.keep (.keep (.keep (.keep (.skip (.skip (.skip (.skip (.skip (.skip Le.nil))))))))))) (fun x2578 s2577 ρ h => ⟨_, rfl, (h.set 4 _)⟩) (fun x2578 s2577 ρ h2579 => (LS.set (enc := fun (p : Int) => (D.int p, Own.no)) (sp := fun _ => [some ((eLst D.int) a0, Own.no), some (D.str a1, Own.no), some ((eLst (eP2 D.int D.int)) s2577.1, Own.lst Own.no), some ((eLst D.str) s2577.2, Own.lst Own.no), some (D.int x2578, Own.no), none, none, none, none, none]) (LK.bind (enc := fun (q : Int) => [(D.int q, Own.no)]) (sp := fun _ => [some ((eLst D.int) a0, Own.no), some (D.str a1, Own.no), some ((eLst (eP2 D.int D.int)) s2577.1, Own.lst Own.no), some ((eLst D.str) s2577.2, Own.lst Own.no), some (D.int x2578, Own.no), none, none, none, none, none]) (LA.done (LA.comp (enc := fun (p : Int) => (D.int p, Own.no)) (sp := fun _ => [some ((eLst D.int) a0, Own.no), some (D.str a1, Own.no), some ((eLst (eP2 D.int D.int)) s2577.1, Own.lst Own.no), some ((eLst D.str) s2577.2, Own.lst Own.no), some (D.int x2578, Own.no), none, none, none, none, none]) (LK.pure (pnF 0 h2579 rfl) (LK.bind (enc := fun (p : Int) => (D.int p, Own.no)) (sp := fun _ => [some ((eLst D.int) a0, Own.no), some (D.str a1, Own.no), some ((eLst (eP2 D.int D.int)) s2577.1, Own.lst Own.no), some ((eLst D.str) s2577.2, Own.lst Own.no), some (D.int x2578, Own.no), none, none, none, none, none]) (LK.pure rfl (LK.bind (enc := fun (p : Int) => (D.int p, Own.no)) (sp := fun _ => [some ((eLst D.int) a0, Own.no), some (D.str a1, Own.no), some ((eLst (eP2 D.int D.int)) s2577.1, Own.lst Own.no), some ((eLst D.str) s2577.2, Own.lst Own.no), some (D.int x2578, Own.no), none, none, none, none, none]) (LK.pure rfl (LK.pure (pnF 4 h2579 rfl) (LK.po (po_mul ((2 : Int)) (x2578)) h2579))) fun p2588 ρ h2589 => (LK.of rfl h2589))) fun p2590 ρ h2591 => (LK.po (po_ixL (e := D.int) (o := Own.no) (a0) (p2590)) h2591))) fun p2592 ρ h2593 => (LA.nil h2593))) fun p2594 ρ h2595 => (LK.of rfl h2595)) fun p2596 ρ h2597 => (LS.set (enc := fun (p : Int) => (D.int p, Own.no)) (sp := fun _ => [some ((eLst D.int) a0, Own.no), some (D.str a1, Own.no), some ((eLst (eP2 D.int D.int)) s2577.1, Own.lst Own.no), some ((eLst D.str) s2577.2, Own.lst Own.no), some (D.int x2578, Own.no), some (D.int p2596, Own.no), none, none, none, none]) (LK.pure (pCall (pCons (pnF 5 h2597 rfl) pNil) rfl) (LK.pure (p2 (pCall (pCons (pn 3 h2597 rfl) pNil) (len_L (e := D.str) _)) rfl rfl) (LK.po (po_mod (p2596) (((s2577.2.length : Int) + (1 : Int)))) h2597))) fun p2598 ρ h2599 => (LS.set (enc := fun (p : Int) => (D.int p, Own.no)) (sp := fun _ => [some ((eLst D.int) a0, Own.no), some (D.str a1, Own.no), some ((eLst (eP2 D.int D.int)) s2577.1, Own.lst Own.no), some ((eLst D.str) s2577.2, Own.lst Own.no), some (D.int x2578, Own.no), some (D.int p2596, Own.no), some (D.int p2598, Own.no), none, none, none]) (LK.bind (enc := fun (p : Int) => (D.int p, Own.no)) (sp := fun _ => [some ((eLst D.int) a0, Own.no), some (D.str a1, Own.no), some ((eLst (eP2 D.int D.int)) s2577.1, Own.lst Own.no), some ((eLst D.str) s2577.2, Own.lst Own.no), some (D.int x2578, Own.no), some (D.int p2596, Own.no), some (D.int p2598, Own.no), none, none, none]) (LK.bind (enc := fun (q : Int) => [(D.int q, Own.no)]) (sp := fun _ => [some ((eLst D.int) a0, Own.no), some (D.str a1, Own.no), some ((eLst (eP2 D.int D.int)) s2577.1, Own.lst Own.no), some ((eLst D.str) s2577.2, Own.lst Own.no), some (D.int x2578, Own.no), some (D.int p2596, Own.no), some (D.int p2598, Own.no), none, none, none]) (LA.done (LA.comp (enc := fun (p : Int) => (D.int p, Own.no)) (sp := fun _ => [some ((eLst D.int) a0, Own.no), some (D.str a1, Own.no), some ((eLst (eP2 D.int D.int)) s2577.1, Own.lst Own.no), some ((eLst D.str) s2577.2, Own.lst Own.no), some (D.int x2578, Own.no), some (D.int p2596, Own.no), some (D.int p2598, Own.no), none, none, none]) (LK.pure (pnF 0 h2599 rfl) (LK.bind (enc := fun (p : Int) => (D.int p, Own.no)) (sp := fun _ => [some ((eLst D.int) a0, Own.no), some (D.str a1, Own.no), some ((eLst (eP2 D.int D.int)) s2577.1, Own.lst Own.no), some ((eLst D.str) s2577.2, Own.lst Own.no), some (D.int x2578, Own.no), some (D.int p2596, Own.no), some (D.int p2598, Own.no), none, none, none]) (LK.pure rfl (LK.bind (enc := fun (p : Int) => (D.int p, Own.no)) (sp := fun _ => [some ((eLst D.int) a0, Own.no), some (D.str a1, Own.no), some ((eLst (eP2 D.int D.int)) s2577.1, Own.lst Own.no), some ((eLst D.str) s2577.2, Own.lst Own.no), some (D.int x2578, Own.no), some (D.int p2596, Own.no), some (D.int p2598, Own.no), none, none, none]) (LK.pure rfl (LK.pure (pnF 4 h2599 rfl) (LK.po (po_mul ((2 : Int)) (x2578)) h2599))) fun p2624 ρ h2625 => (LK.of rfl h2625))) fun p2626 ρ h2627 => (LK.po (po_ixL (e := D.int) (o := Own.no) (a0) (p2626)) h2627))) fun p2628 ρ h2629 => (LA.nil h2629))) fun p2630 ρ h2631 => (LK.of rfl h2631)) fun p2632 ρ h2633 => (LK.pure (p2 (pCall (pCons (pn 3 h2633 rfl) pNil) (len_L (e := D.str) _)) rfl rfl) (LK.po (po_mod (p2632) (((s2577.2.length : Int) + (1 : Int)))) h2633))) fun p2634 ρ h2635 => (LS.seq (sn := fun (s : (Int × Int)) => [some ((eLst D.int) a0, Own.no), some (D.str a1, Own.no), some ((eLst (eP2 D.int D.int)) s2577.1, Own.lst Own.no), some ((eLst D.str) s2577.2, Own.lst Own.no), some (D.int x2578, Own.no), some (D.int p2596, Own.no), some (D.int s.1, Own.no), some (D.int s.2, Own.no), none, none]) (LS.if_ (enc := fun (p : Bool) => p) (sp := fun _ => [some ((eLst D.int) a0, Own.no), some (D.str a1, Own.no), some ((eLst (eP2 D.int D.int)) s2577.1, Own.lst Own.no), some ((eLst D.str) s2577.2, Own.lst Own.no), some (D.int x2578, Own.no), some (D.int p2596, Own.no), some (D.int p2598, Own.no), some (D.int p2634, Own.no), none, none]) (LK.bool (b := fun p => p) (o := fun _ => Own.no) (LK.bind (enc := fun (p : Int) => (D.int p, Own.no)) (sp := fun _ => [some ((eLst D.int) a0, Own.no), some (D.str a1, Own.no), some ((eLst (eP2 D.int D.int)) s2577.1, Own.lst Own.no), some ((eLst D.str) s2577.2, Own.lst Own.no), some (D.int x2578, Own.no), some (D.int p2596, Own.no), some (D.int p2598, Own.no), some (D.int p2634, Own.no), none, none]) (LK.bind (enc := fun (p : Int) => (D.int p, Own.no)) (sp := fun _ => [some ((eLst D.int) a0, Own.no), some (D.str a1, Own.no), some ((eLst (eP2 D.int D.int)) s2577.1, Own.lst Own.no), some ((eLst D.str) s2577.2, Own.lst Own.no), some (D.int x2578, Own.no), some (D.int p2596, Own.no), some (D.int p2598, Own.no), some (D.int p2634, Own.no), none, none]) (LK.bind (enc := fun (q : Int) => [(D.int q, Own.no)]) (sp := fun _ => [some ((eLst D.int) a0, Own.no), some (D.str a1, Own.no), some ((eLst (eP2 D.int D.int)) s2577.1, Own.lst Own.no), some ((eLst D.str) s2577.2, Own.lst Own.no), some (D.int x2578, Own.no), some (D.int p2596, Own.no), some (D.int p2598, Own.no), some (D.int p2634, Own.no), none, none]) (LA.done (LA.comp (enc := fun (p : Int) => (D.int p, Own.no)) (sp := fun _ => [some ((eLst D.int) a0, Own.no), some (D.str a1, Own.no), some ((eLst (eP2 D.int D.int)) s2577.1, Own.lst Own.no), some ((eLst D.str) s2577.2, Own.lst Own.no), some (D.int x2578, Own.no), some (D.int p2596, Own.no), some (D.int p2598, Own.no), some (D.int p2634, Own.no), none, none]) (LK.pure (pnF 0 h2635 rfl) (LK.pure rfl (LK.po (po_ixL (e := D.int) (o := Own.no) (a0) ((3 : Int))) h2635))) fun p2672 ρ h2673 => (LA.nil h2673))) fun p2674 ρ h2675 => (LK.of rfl h2675)) fun p2676 ρ h2677 => (LK.pure rfl (LK.of (o_mod _ _ (by decide)) h2677))) fun p2678 ρ h2679 => (LK.pure rfl (LK.of rfl h2679)))) (fun p2680 ρ h2681 _ => (LS.set (enc := fun p => (D.int p, Own.no)) (sp := fun _ => [some ((eLst D.int) a0, Own.no), some (D.str a1, Own.no), some ((eLst (eP2 D.int D.int)) s2577.1, Own.lst Own.no), some ((eLst D.str) s2577.2, Own.lst Own.no), some (D.int x2578, Own.no), some (D.int p2596, Own.no), some (D.int p2598, Own.no), some (D.int p2634, Own.no), none, none]) (LK.of (p2 (pCall (pCons (pn 3 h2681 rfl) pNil) (len_L (e := D.str) _)) rfl rfl) h2681) fun v2683 ρ h2682 => (LS.if_ (enc := fun (p : Bool) => p) (sp := fun _ => [some ((eLst D.int) a0, Own.no), some (D.str a1, Own.no), some ((eLst (eP2 D.int D.int)) s2577.1, Own.lst Own.no), some ((eLst D.str) s2577.2, Own.lst Own.no), some (D.int x2578, Own.no), some (D.int p2596, Own.no), some (D.int v2683, Own.no), some (D.int p2634, Own.no), none, none]) (LK.bool (b := fun p => p) (o := fun _ => Own.no) (LK.bind (enc := fun (p : Int) => (D.int p, Own.no)) (sp := fun _ => [some ((eLst D.int) a0, Own.no), some (D.str a1, Own.no), some ((eLst (eP2 D.int D.int)) s2577.1, Own.lst Own.no), some ((eLst D.str) s2577.2, Own.lst Own.no), some (D.int x2578, Own.no), some (D.int p2596, Own.no), some (D.int v2683, Own.no), some (D.int p2634, Own.no), none, none]) (LK.bind (enc := fun (p : Int) => (D.int p, Own.no)) (sp := fun _ => [some ((eLst D.int) a0, Own.no), some (D.str a1, Own.no), some ((eLst (eP2 D.int D.int)) s2577.1, Own.lst Own.no), some ((eLst D.str) s2577.2, Own.lst Own.no), some (D.int x2578, Own.no), some (D.int p2596, Own.no), some (D.int v2683, Own.no), some (D.int p2634, Own.no), none, none]) (LK.bind (enc := fun (q : Int) => [(D.int q, Own.no)]) (sp := fun _ => [some ((eLst D.int) a0, Own.no), some (D.str a1, Own.no), some ((eLst (eP2 D.int D.int)) s2577.1, Own.lst Own.no), some ((eLst D.str) s2577.2, Own.lst Own.no), some (D.int x2578, Own.no), some (D.int p2596, Own.no), some (D.int v2683, Own.no), some (D.int p2634, Own.no), none, none]) (LA.done (LA.comp (enc := fun (p : Int) => (D.int p, Own.no)) (sp := fun _ => [some ((eLst D.int) a0, Own.no), some (D.str a1, Own.no), some ((eLst (eP2 D.int D.int)) s2577.1, Own.lst Own.no), some ((eLst D.str) s2577.2, Own.lst Own.no), some (D.int x2578, Own.no), some (D.int p2596, Own.no), some (D.int v2683, Own.no), some (D.int p2634, Own.no), none, none]) (LK.pure (pnF 0 h2682 rfl) (LK.bind (enc := fun (p : Int) => (D.int p, Own.no)) (sp := fun _ => [some ((eLst D.int) a0, Own.no), some (D.str a1, Own.no), some ((eLst (eP2 D.int D.int)) s2577.1, Own.lst Own.no), some ((eLst D.str) s2577.2, Own.lst Own.no), some (D.int x2578, Own.no), some (D.int p2596, Own.no), some (D.int v2683, Own.no), some (D.int p2634, Own.no), none, none]) (LK.pure rfl (LK.bind (enc := fun (p : Int) => (D.int p, Own.no)) (sp := fun _ => [some ((eLst D.int) a0, Own.no), some (D.str a1, Own.no), some ((eLst (eP2 D.int D.int)) s2577.1, Own.lst Own.no), some ((eLst D.str) s2577.2, Own.lst Own.no), some (D.int x2578, Own.no), some (D.int p2596, Own.no), some (D.int v2683, Own.no), some (D.int p2634, Own.no), none, none]) (LK.pure rfl (LK.pure (pnF 4 h2682 rfl) (LK.po (po_mul ((2 : Int)) (x2578)) h2682))) fun p2742 ρ h2743 => (LK.of rfl h2743))) fun p2744 ρ h2745 => (LK.po (po_ixL (e := D.int) (o := Own.no) (a0) (p2744)) h2745))) fun p2746 ρ h2747 => (LA.nil h2747))) fun p2748 ρ h2749 => (LK.of rfl h2749)) fun p2750 ρ h2751 => (LK.pure rfl (LK.of (o_mod _ _ (by decide)) h2751))) fun p2752 ρ h2753 => (LK.pure rfl (LK.of rfl h2753)))) (fun p2754 ρ h2755 _ => (LS.last (LS.set (enc := fun p => (D.int p, Own.no)) (sp := fun _ => [some ((eLst D.int) a0, Own.no), some (D.str a1, Own.no), some ((eLst (eP2 D.int D.int)) s2577.1, Own.lst Own.no), some ((eLst D.str) s2577.2, Own.lst Own.no), some (D.int x2578, Own.no), some (D.int p2596, Own.no), some (D.int v2683, Own.no), some (D.int p2634, Own.no), none, none]) (LK.of (p2 (pCall (pCons (pn 3 h2755 rfl) pNil) (len_L (e := D.str) _)) rfl rfl) h2755) fun v2757 ρ h2756 => (LS.nx (a := (v2683, v2757)) (h2756.weak (.keep (.keep (.keep (.keep (.keep (.keep (.keep (.keep (.skip (.skip Le.nil))))))))))))))) (fun p2754 ρ h2755 _ => (LS.nx (a := (v2683, p2634)) (h2755.weak (.keep (.keep (.keep (.keep (.keep (.keep (.keep (.keep (.skip (.skip Le.nil)))))))))))))))) (fun p2680 ρ h2681 _ => (LS.nx (a := (p2598, p2634)) (h2681.weak (.keep (.keep (.keep (.keep (.keep (.keep (.keep (.keep (.skip (.skip Le.nil)))))))))))))) fun s2758 ρ h2759 => (LS.seq (sn := fun (s : Int) => [some ((eLst D.int) a0, Own.no), some (D.str a1, Own.no), some ((eLst (eP2 D.int D.int)) s2577.1, Own.lst Own.no), some ((eLst D.str) s2577.2, Own.lst Own.no), some (D.int x2578, Own.no), some (D.int p2596, Own.no), some (D.int s, Own.no), some (D.int s2758.2, Own.no), none, none]) (LS.if_ (enc := id) (sp := fun _ => [some ((eLst D.int) a0, Own.no), some (D.str a1, Own.no), some ((eLst (eP2 D.int D.int)) s2577.1, Own.lst Own.no), some ((eLst D.str) s2577.2, Own.lst Own.no), some (D.int x2578, Own.no), some (D.int p2596, Own.no), some (D.int s2758.1, Own.no), some (D.int s2758.2, Own.no), none, none]) (LK.andT (LK.of (enc := id) (pBool (p2 (pnF 6 h2759 rfl) (pCall (pCons (pn 3 h2759 rfl) pNil) (len_L (e := D.str) _)) rfl)) h2759) fun ρ h2827 => (LK.bool (b := fun p => p) (o := fun _ => Own.no) (LK.bind (enc := fun (p : Int) => (D.int p, Own.no)) (sp := fun _ => [some ((eLst D.int) a0, Own.no), some (D.str a1, Own.no), some ((eLst (eP2 D.int D.int)) s2577.1, Own.lst Own.no), some ((eLst D.str) s2577.2, Own.lst Own.no), some (D.int x2578, Own.no), some (D.int p2596, Own.no), some (D.int s2758.1, Own.no), some (D.int s2758.2, Own.no), none, none]) (LK.bind (enc := fun (p : Int) => (D.int p, Own.no)) (sp := fun _ => [some ((eLst D.int) a0, Own.no), some (D.str a1, Own.no), some ((eLst (eP2 D.int D.int)) s2577.1, Own.lst Own.no), some ((eLst D.str) s2577.2, Own.lst Own.no), some (D.int x2578, Own.no), some (D.int p2596, Own.no), some (D.int s2758.1, Own.no), some (D.int s2758.2, Own.no), none, none]) (LK.bind (enc := fun (q : Int) => [(D.int q, Own.no)]) (sp := fun _ => [some ((eLst D.int) a0, Own.no), some (D.str a1, Own.no), some ((eLst (eP2 D.int D.int)) s2577.1, Own.lst Own.no), some ((eLst D.str) s2577.2, Own.lst Own.no), some (D.int x2578, Own.no), some (D.int p2596, Own.no), some (D.int s2758.1, Own.no), some (D.int s2758.2, Own.no), none, none]) (LA.done (LA.comp (enc := fun (p : Int) => (D.int p, Own.no)) (sp := fun _ => [some ((eLst D.int) a0, Own.no), some (D.str a1, Own.no), some ((eLst (eP2 D.int D.int)) s2577.1, Own.lst Own.no), some ((eLst D.str) s2577.2, Own.lst Own.no), some (D.int x2578, Own.no), some (D.int p2596, Own.no), some (D.int s2758.1, Own.no), some (D.int s2758.2, Own.no), none, none]) (LK.pure (pnF 5 h2827 rfl) (LK.pure rfl (LK.po (po_div (p2596) ((100 : Int))) h2827))) fun p2842 ρ h2843 => (LA.nil h2843))) fun p2844 ρ h2845 => (LK.of rfl h2845)) fun p2846 ρ h2847 => (LK.pure rfl (LK.of (o_mod _ _ (by decide)) h2847))) fun p2848 ρ h2849 => (LK.pure rfl (LK.of rfl h2849))))) (fun p2850 ρ h2851 _ => (LS.last (LS.setp h2851 rfl fun ρ h2852 => (LS.nx (a := (0 : Int)) (h2852.weak (.keep (.keep (.keep (.keep (.keep (.keep (.keep (.keep (.skip (.skip Le.nil))))))))))))))) (fun p2850 ρ h2851 _ => (LS.nx (a := s2758.1) (h2851.weak (.keep (.keep (.keep (.keep (.keep (.keep (.keep (.keep (.skip (.skip Le.nil)))))))))))))) fun s2853 ρ h2854 => (LS.seq (sn := fun (s : Int) => [some ((eLst D.int) a0, Own.no), some (D.str a1, Own.no), some ((eLst (eP2 D.int D.int)) s2577.1, Own.lst Own.no), some ((eLst D.str) s2577.2, Own.lst Own.no), some (D.int x2578, Own.no), some (D.int p2596, Own.no), some (D.int s2853, Own.no), some (D.int s, Own.no), none, none]) (LS.if_ (enc := id) (sp := fun _ => [some ((eLst D.int) a0, Own.no), some (D.str a1, Own.no), some ((eLst (eP2 D.int D.int)) s2577.1, Own.lst Own.no), some ((eLst D.str) s2577.2, Own.lst Own.no), some (D.int x2578, Own.no), some (D.int p2596, Own.no), some (D.int s2853, Own.no), some (D.int s2758.2, Own.no), none, none]) (LK.andT (LK.of (enc := id) (pBool (p2 (pnF 7 h2854 rfl) (pCall (pCons (pn 3 h2854 rfl) pNil) (len_L (e := D.str) _)) rfl)) h2854) fun ρ h2922 => (LK.bool (b := fun p => p) (o := fun _ => Own.no) (LK.bind (enc := fun (p : Int) => (D.int p, Own.no)) (sp := fun _ => [some ((eLst D.int) a0, Own.no), some (D.str a1, Own.no), some ((eLst (eP2 D.int D.int)) s2577.1, Own.lst Own.no), some ((eLst D.str) s2577.2, Own.lst Own.no), some (D.int x2578, Own.no), some (D.int p2596, Own.no), some (D.int s2853, Own.no), some (D.int s2758.2, Own.no), none, none]) (LK.bind (enc := fun (p : Int) => (D.int p, Own.no)) (sp := fun _ => [some ((eLst D.int) a0, Own.no), some (D.str a1, Own.no), some ((eLst (eP2 D.int D.int)) s2577.1, Own.lst Own.no), some ((eLst D.str) s2577.2, Own.lst Own.no), some (D.int x2578, Own.no), some (D.int p2596, Own.no), some (D.int s2853, Own.no), some (D.int s2758.2, Own.no), none, none]) (LK.bind (enc := fun (q : Int) => [(D.int q, Own.no)]) (sp := fun _ => [some ((eLst D.int) a0, Own.no), some (D.str a1, Own.no), some ((eLst (eP2 D.int D.int)) s2577.1, Own.lst Own.no), some ((eLst D.str) s2577.2, Own.lst Own.no), some (D.int x2578, Own.no), some (D.int p2596, Own.no), some (D.int s2853, Own.no), some (D.int s2758.2, Own.no), none, none]) (LA.done (LA.comp (enc := fun (p : Int) => (D.int p, Own.no)) (sp := fun _ => [some ((eLst D.int) a0, Own.no), some (D.str a1, Own.no), some ((eLst (eP2 D.int D.int)) s2577.1, Own.lst Own.no), some ((eLst D.str) s2577.2, Own.lst Own.no), some (D.int x2578, Own.no), some (D.int p2596, Own.no), some (D.int s2853, Own.no), some (D.int s2758.2, Own.no), none, none]) (LK.pure (pnF 5 h2922 rfl) (LK.pure rfl (LK.po (po_div (p2596) ((100 : Int))) h2922))) fun p2937 ρ h2938 => (LA.nil h2938))) fun p2939 ρ h2940 => (LK.of rfl h2940)) fun p2941 ρ h2942 => (LK.pure rfl (LK.of (o_mod _ _ (by decide)) h2942))) fun p2943 ρ h2944 => (LK.pure rfl (LK.of rfl h2944))))) (fun p2945 ρ h2946 _ => (LS.last (LS.setp h2946 rfl fun ρ h2947 => (LS.nx (a := (0 : Int)) (h2947.weak (.keep (.keep (.keep (.keep (.keep (.keep (.keep (.keep (.skip (.skip Le.nil))))))))))))))) (fun p2945 ρ h2946 _ => (LS.nx (a := s2758.2) (h2946.weak (.keep (.keep (.keep (.keep (.keep (.keep (.keep (.keep (.skip (.skip Le.nil)))))))))))))) fun s2948 ρ h2949 => (LS.set (enc := fun (p : Int) => (D.int p, Own.no)) (sp := fun _ => [some ((eLst D.int) a0, Own.no), some (D.str a1, Own.no), some ((eLst (eP2 D.int D.int)) s2577.1, Own.lst Own.no), some ((eLst D.str) s2577.2, Own.lst Own.no), some (D.int x2578, Own.no), some (D.int p2596, Own.no), some (D.int s2853, Own.no), some (D.int s2948, Own.no), none, none]) (LK.bind (enc := fun (p : (List Int)) => ((eLst D.int) p, Own.lst Own.no)) (sp := fun _ => [some ((eLst D.int) a0, Own.no), some (D.str a1, Own.no), some ((eLst (eP2 D.int D.int)) s2577.1, Own.lst Own.no), some ((eLst D.str) s2577.2, Own.lst Own.no), some (D.int x2578, Own.no), some (D.int p2596, Own.no), some (D.int s2853, Own.no), some (D.int s2948, Own.no), none, none]) (LK.bind (enc := fun (q : Int) => [(D.int (-(1 : Int)), Own.no), (D.int ((-s2948) - (1 : Int)), Own.no), (D.int ((s2577.2.length : Int) + (7 : Int)), Own.no), (D.int q, Own.no), (D.int (-(s2577.2.length : Int)), Own.no)]) (sp := fun _ => [some ((eLst D.int) a0, Own.no), some (D.str a1, Own.no), some ((eLst (eP2 D.int D.int)) s2577.1, Own.lst Own.no), some ((eLst D.str) s2577.2, Own.lst Own.no), some (D.int x2578, Own.no), some (D.int p2596, Own.no), some (D.int s2853, Own.no), some (D.int s2948, Own.no), none, none]) (LA.done (LA.pure (p1 rfl rfl) (LA.pure (p2 (p1 (pnF 7 h2949 rfl) rfl) rfl rfl) (LA.pure (pFrz (p2 (pCall (pCons (pn 3 h2949 rfl) pNil) (len_L (e := D.str) _)) rfl rfl)) (LA.comp (enc := fun (p : Int) => (D.int p, Own.no)) (sp := fun _ => [some ((eLst D.int) a0, Own.no), some (D.str a1, Own.no), some ((eLst (eP2 D.int D.int)) s2577.1, Own.lst Own.no), some ((eLst D.str) s2577.2, Own.lst Own.no), some (D.int x2578, Own.no), some (D.int p2596, Own.no), some (D.int s2853, Own.no), some (D.int s2948, Own.no), none, none]) (LK.pure rfl (LK.pure rfl (LK.po (po_pow ((10 : Int)) ((12 : Int))) h2949))) fun p2954 ρ h2955 => (LA.pure (p1 (pCall (pCons (pn 3 h2955 rfl) pNil) (len_L (e := D.str) _)) rfl) (LA.nil h2955))))))) fun p2956 ρ h2957 => (LK.of (by first | rfl | exact if_pos ⟨rfl, small rfl⟩) h2957)) fun p2958 ρ h2959 => (LK.bind (enc := fun (p : Int) => (D.int p, Own.no)) (sp := fun _ => [some ((eLst D.int) a0, Own.no), some (D.str a1, Own.no), some ((eLst (eP2 D.int D.int)) s2577.1, Own.lst Own.no), some ((eLst D.str) s2577.2, Own.lst Own.no), some (D.int x2578, Own.no), some (D.int p2596, Own.no), some (D.int s2853, Own.no), some (D.int s2948, Own.no), none, none]) (LK.bind (enc := fun (p : Int) => (D.int p, Own.no)) (sp := fun _ => [some ((eLst D.int) a0, Own.no), some (D.str a1, Own.no), some ((eLst (eP2 D.int D.int)) s2577.1, Own.lst Own.no), some ((eLst D.str) s2577.2, Own.lst Own.no), some (D.int x2578, Own.no), some (D.int p2596, Own.no), some (D.int s2853, Own.no), some (D.int s2948, Own.no), none, none]) (LK.bind (enc := fun (q : Int) => [(D.int q, Own.no)]) (sp := fun _ => [some ((eLst D.int) a0, Own.no), some (D.str a1, Own.no), some ((eLst (eP2 D.int D.int)) s2577.1, Own.lst Own.no), some ((eLst D.str) s2577.2, Own.lst Own.no), some (D.int x2578, Own.no), some (D.int p2596, Own.no), some (D.int s2853, Own.no), some (D.int s2948, Own.no), none, none]) (LA.done (LA.comp (enc := fun (p : Int) => (D.int p, Own.no)) (sp := fun _ => [some ((eLst D.int) a0, Own.no), some (D.str a1, Own.no), some ((eLst (eP2 D.int D.int)) s2577.1, Own.lst Own.no), some ((eLst D.str) s2577.2, Own.lst Own.no), some (D.int x2578, Own.no), some (D.int p2596, Own.no), some (D.int s2853, Own.no), some (D.int s2948, Own.no), none, none]) (LK.bind (enc := fun (p : Int) => (D.int p, Own.no)) (sp := fun _ => [some ((eLst D.int) a0, Own.no), some (D.str a1, Own.no), some ((eLst (eP2 D.int D.int)) s2577.1, Own.lst Own.no), some ((eLst D.str) s2577.2, Own.lst Own.no), some (D.int x2578, Own.no), some (D.int p2596, Own.no), some (D.int s2853, Own.no), some (D.int s2948, Own.no), none, none]) (LK.pure (pnF 0 h2959 rfl) (LK.bind (enc := fun (p : Int) => (D.int p, Own.no)) (sp := fun _ => [some ((eLst D.int) a0, Own.no), some (D.str a1, Own.no), some ((eLst (eP2 D.int D.int)) s2577.1, Own.lst Own.no), some ((eLst D.str) s2577.2, Own.lst Own.no), some (D.int x2578, Own.no), some (D.int p2596, Own.no), some (D.int s2853, Own.no), some (D.int s2948, Own.no), none, none]) (LK.pure rfl (LK.bind (enc := fun (p : Int) => (D.int p, Own.no)) (sp := fun _ => [some ((eLst D.int) a0, Own.no), some (D.str a1, Own.no), some ((eLst (eP2 D.int D.int)) s2577.1, Own.lst Own.no), some ((eLst D.str) s2577.2, Own.lst Own.no), some (D.int x2578, Own.no), some (D.int p2596, Own.no), some (D.int s2853, Own.no), some (D.int s2948, Own.no), none, none]) (LK.pure rfl (LK.pure (pnF 4 h2959 rfl) (LK.po (po_mul ((2 : Int)) (x2578)) h2959))) fun p3014 ρ h3015 => (LK.of rfl h3015))) fun p3016 ρ h3017 => (LK.po (po_ixL (e := D.int) (o := Own.no) (a0) (p3016)) h3017))) fun p3018 ρ h3019 => (LK.pure rfl (LK.po (po_div (p3018) ((60 : Int))) h3019))) fun p3020 ρ h3021 => (LA.nil h3021))) fun p3022 ρ h3023 => (LK.of rfl h3023)) fun p3024 ρ h3025 => (LK.pure rfl (LK.of (o_mod _ _ (by decide)) h3025))) fun p3026 ρ h3027 => (LK.po (po_ixL (e := D.int) (o := Own.lst Own.no) (p2958) (p3026)) h3027))) fun p3028 ρ h3029 => (LS.seq (sn := fun (s : Int) => [some ((eLst D.int) a0, Own.no), some (D.str a1, Own.no), some ((eLst (eP2 D.int D.int)) s2577.1, Own.lst Own.no), some ((eLst D.str) s2577.2, Own.lst Own.no), some (D.int x2578, Own.no), some (D.int p2596, Own.no), some (D.int s2853, Own.no), some (D.int s, Own.no), some (D.int p3028, Own.no), none]) (LS.if_ (enc := fun (p : Bool) => p) (sp := fun _ => [some ((eLst D.int) a0, Own.no), some (D.str a1, Own.no), some ((eLst (eP2 D.int D.int)) s2577.1, Own.lst Own.no), some ((eLst D.str) s2577.2, Own.lst Own.no), some (D.int x2578, Own.no), some (D.int p2596, Own.no), some (D.int s2853, Own.no), some (D.int s2948, Own.no), some (D.int p3028, Own.no), none]) (LK.bool (b := fun p => p) (o := fun _ => Own.no) (LK.bind (enc := fun (p : Int) => (D.int p, Own.no)) (sp := fun _ => [some ((eLst D.int) a0, Own.no), some (D.str a1, Own.no), some ((eLst (eP2 D.int D.int)) s2577.1, Own.lst Own.no), some ((eLst D.str) s2577.2, Own.lst Own.no), some (D.int x2578, Own.no), some (D.int p2596, Own.no), some (D.int s2853, Own.no), some (D.int s2948, Own.no), some (D.int p3028, Own.no), none]) (LK.bind (enc := fun (p : Int) => (D.int p, Own.no)) (sp := fun _ => [some ((eLst D.int) a0, Own.no), some (D.str a1, Own.no), some ((eLst (eP2 D.int D.int)) s2577.1, Own.lst Own.no), some ((eLst D.str) s2577.2, Own.lst Own.no), some (D.int x2578, Own.no), some (D.int p2596, Own.no), some (D.int s2853, Own.no), some (D.int s2948, Own.no), some (D.int p3028, Own.no), none]) (LK.bind (enc := fun (q : Int) => [(D.int q, Own.no)]) (sp := fun _ => [some ((eLst D.int) a0, Own.no), some (D.str a1, Own.no), some ((eLst (eP2 D.int D.int)) s2577.1, Own.lst Own.no), some ((eLst D.str) s2577.2, Own.lst Own.no), some (D.int x2578, Own.no), some (D.int p2596, Own.no), some (D.int s2853, Own.no), some (D.int s2948, Own.no), some (D.int p3028, Own.no), none]) (LA.done (LA.comp (enc := fun (p : Int) => (D.int p, Own.no)) (sp := fun _ => [some ((eLst D.int) a0, Own.no), some (D.str a1, Own.no), some ((eLst (eP2 D.int D.int)) s2577.1, Own.lst Own.no), some ((eLst D.str) s2577.2, Own.lst Own.no), some (D.int x2578, Own.no), some (D.int p2596, Own.no), some (D.int s2853, Own.no), some (D.int s2948, Own.no), some (D.int p3028, Own.no), none]) (LK.pure (pnF 5 h3029 rfl) (LK.pure rfl (LK.po (po_div (p2596) ((7 : Int))) h3029))) fun p3066 ρ h3067 => (LA.nil h3067))) fun p3068 ρ h3069 => (LK.of rfl h3069)) fun p3070 ρ h3071 => (LK.pure rfl (LK.of (o_mod _ _ (by decide)) h3071))) fun p3072 ρ h3073 => (LK.pure rfl (LK.of rfl h3073)))) (fun p3074 ρ h3075 _ => (LS.last (LS.setp h3075 (pnF 8 h3075 rfl) fun ρ h3076 => (LS.nx (a := p3028) (h3076.weak (.keep (.keep (.keep (.keep (.keep (.keep (.keep (.keep (.keep (.skip Le.nil))))))))))))))) (fun p3074 ρ h3075 _ => (LS.nx (a := s2948) (h3075.weak (.keep (.keep (.keep (.keep (.keep (.keep (.keep (.keep (.keep (.skip Le.nil)))))))))))))) fun s3077 ρ h3078 => (LS.seq (sn := fun (s : Int) => [some ((eLst D.int) a0, Own.no), some (D.str a1, Own.no), some ((eLst (eP2 D.int D.int)) s2577.1, Own.lst Own.no), some ((eLst D.str) s2577.2, Own.lst Own.no), some (D.int x2578, Own.no), some (D.int p2596, Own.no), some (D.int s, Own.no), some (D.int s3077, Own.no), some (D.int p3028, Own.no), none]) (LS.if_ (enc := fun (p : Bool) => p) (sp := fun _ => [some ((eLst D.int) a0, Own.no), some (D.str a1, Own.no), some ((eLst (eP2 D.int D.int)) s2577.1, Own.lst Own.no), some ((eLst D.str) s2577.2, Own.lst Own.no), some (D.int x2578, Own.no), some (D.int p2596, Own.no), some (D.int s2853, Own.no), some (D.int s3077, Own.no), some (D.int p3028, Own.no), none]) (LK.bool (b := fun p => p) (o := fun _ => Own.no) (LK.bind (enc := fun (p : Int) => (D.int p, Own.no)) (sp := fun _ => [some ((eLst D.int) a0, Own.no), some (D.str a1, Own.no), some ((eLst (eP2 D.int D.int)) s2577.1, Own.lst Own.no), some ((eLst D.str) s2577.2, Own.lst Own.no), some (D.int x2578, Own.no), some (D.int p2596, Own.no), some (D.int s2853, Own.no), some (D.int s3077, Own.no), some (D.int p3028, Own.no), none]) (LK.bind (enc := fun (p : Int) => (D.int p, Own.no)) (sp := fun _ => [some ((eLst D.int) a0, Own.no), some (D.str a1, Own.no), some ((eLst (eP2 D.int D.int)) s2577.1, Own.lst Own.no), some ((eLst D.str) s2577.2, Own.lst Own.no), some (D.int x2578, Own.no), some (D.int p2596, Own.no), some (D.int s2853, Own.no), some (D.int s3077, Own.no), some (D.int p3028, Own.no), none]) (LK.bind (enc := fun (q : Int) => [(D.int q, Own.no)]) (sp := fun _ => [some ((eLst D.int) a0, Own.no), some (D.str a1, Own.no), some ((eLst (eP2 D.int D.int)) s2577.1, Own.lst Own.no), some ((eLst D.str) s2577.2, Own.lst Own.no), some (D.int x2578, Own.no), some (D.int p2596, Own.no), some (D.int s2853, Own.no), some (D.int s3077, Own.no), some (D.int p3028, Own.no), none]) (LA.done (LA.comp (enc := fun (p : Int) => (D.int p, Own.no)) (sp := fun _ => [some ((eLst D.int) a0, Own.no), some (D.str a1, Own.no), some ((eLst (eP2 D.int D.int)) s2577.1, Own.lst Own.no), some ((eLst D.str) s2577.2, Own.lst Own.no), some (D.int x2578, Own.no), some (D.int p2596, Own.no), some (D.int s2853, Own.no), some (D.int s3077, Own.no), some (D.int p3028, Own.no), none]) (LK.pure (pnF 5 h3078 rfl) (LK.pure rfl (LK.po (po_div (p2596) ((7 : Int))) h3078))) fun p3115 ρ h3116 => (LA.nil h3116))) fun p3117 ρ h3118 => (LK.of rfl h3118)) fun p3119 ρ h3120 => (LK.pure rfl (LK.of (o_mod _ _ (by decide)) h3120))) fun p3121 ρ h3122 => (LK.pure rfl (LK.of rfl h3122)))) (fun p3123 ρ h3124 _ => (LS.last (LS.setp h3124 (pnF 8 h3124 rfl) fun ρ h3125 => (LS.nx (a := p3028) (h3125.weak (.keep (.keep (.keep (.keep (.keep (.keep (.keep (.keep (.keep (.skip Le.nil))))))))))))))) (fun p3123 ρ h3124 _ => (LS.nx (a := s2853) (h3124.weak (.keep (.keep (.keep (.keep (.keep (.keep (.keep (.keep (.keep (.skip Le.nil)))))))))))))) fun s3126 ρ h3127 => (LS.set (enc := fun (p : Bool) => (D.bl p, Own.no)) (sp := fun _ => [some ((eLst D.int) a0, Own.no), some (D.str a1, Own.no), some ((eLst (eP2 D.int D.int)) s2577.1, Own.lst Own.no), some ((eLst D.str) s2577.2, Own.lst Own.no), some (D.int x2578, Own.no), some (D.int p2596, Own.no), some (D.int s3126, Own.no), some (D.int s3077, Own.no), some (D.int p3028, Own.no), none]) (LK.frz (e := fun p => D.bl p) (o := fun _ => Own.no) (LK.callB (pCons (pnF 1 h3127 rfl) (pCons (pn 3 h3127 rfl) (pCons (pn 2 h3127 rfl) (pCons (pTup (pCons (pnF 6 h3127 rfl) (pCons (pnF 7 h3127 rfl) pNil)) ⟨rfl, small rfl⟩) pNil)))) h3127 trivial (lk_law_is_proper a1 s2577.2 s2577.1 (s3126, s3077)))) fun p3128 ρ h3129 => (LS.if_ (enc := id) (sp := fun _ => [some ((eLst D.int) a0, Own.no), some (D.str a1, Own.no), some ((eLst (eP2 D.int D.int)) s2577.1, Own.lst Own.no), some ((eLst D.str) s2577.2, Own.lst Own.no), some (D.int x2578, Own.no), some (D.int p2596, Own.no), some (D.int s3126, Own.no), some (D.int s3077, Own.no), some (D.int p3028, Own.no), some (D.bl p3128, Own.no)]) (LK.orT (LK.of (enc := id) (pTru (pnF 9 h3129 rfl) rfl) h3129) fun ρ h3213 => (LK.orT (LK.bool (b := fun p => p) (o := fun _ => Own.no) (LK.bind (enc := fun (p : Int) => (D.int p, Own.no)) (sp := fun _ => [some ((eLst D.int) a0, Own.no), some (D.str a1, Own.no), some ((eLst (eP2 D.int D.int)) s2577.1, Own.lst Own.no), some ((eLst D.str) s2577.2, Own.lst Own.no), some (D.int x2578, Own.no), some (D.int p2596, Own.no), some (D.int s3126, Own.no), some (D.int s3077, Own.no), some (D.int p3028, Own.no), some (D.bl p3128, Own.no)]) (LK.bind (enc := fun (p : Int) => (D.int p, Own.no)) (sp := fun _ => [some ((eLst D.int) a0, Own.no), some (D.str a1, Own.no), some ((eLst (eP2 D.int D.int)) s2577.1, Own.lst Own.no), some ((eLst D.str) s2577.2, Own.lst Own.no), some (D.int x2578, Own.no), some (D.int p2596, Own.no), some (D.int s3126, Own.no), some (D.int s3077, Own.no), some (D.int p3028, Own.no), some (D.bl p3128, Own.no)]) (LK.bind (enc := fun (q : Int) => [(D.int q, Own.no)]) (sp := fun _ => [some ((eLst D.int) a0, Own.no), some (D.str a1, Own.no), some ((eLst (eP2 D.int D.int)) s2577.1, Own.lst Own.no), some ((eLst D.str) s2577.2, Own.lst Own.no), some (D.int x2578, Own.no), some (D.int p2596, Own.no), some (D.int s3126, Own.no), some (D.int s3077, Own.no), some (D.int p3028, Own.no), some (D.bl p3128, Own.no)]) (LA.done (LA.comp (enc := fun (p : Int) => (D.int p, Own.no)) (sp := fun _ => [some ((eLst D.int) a0, Own.no), some (D.str a1, Own.no), some ((eLst (eP2 D.int D.int)) s2577.1, Own.lst Own.no), some ((eLst D.str) s2577.2, Own.lst Own.no), some (D.int x2578, Own.no), some (D.int p2596, Own.no), some (D.int s3126, Own.no), some (D.int s3077, Own.no), some (D.int p3028, Own.no), some (D.bl p3128, Own.no)]) (LK.bind (enc := fun (p : Int) => (D.int p, Own.no)) (sp := fun _ => [some ((eLst D.int) a0, Own.no), some (D.str a1, Own.no), some ((eLst (eP2 D.int D.int)) s2577.1, Own.lst Own.no), some ((eLst D.str) s2577.2, Own.lst Own.no), some (D.int x2578, Own.no), some (D.int p2596, Own.no), some (D.int s3126, Own.no), some (D.int s3077, Own.no), some (D.int p3028, Own.no), some (D.bl p3128, Own.no)]) (LK.pure (pnF 0 h3213 rfl) (LK.pure (p2 rfl (p2 (pCall (pCons (pnF 4 h3213 rfl) pNil) rfl) rfl (o_mod _ _ (by decide))) rfl) (LK.po (po_ixL (e := D.int) (o := Own.no) (a0) (((40 : Int) + (x2578 % (5 : Int))))) h3213))) fun p3242 ρ h3243 => (LK.pure (p2 rfl (pnF 4 h3243 rfl) rfl) (LK.po (po_div (p3242) (((1 : Int) + x2578))) h3243))) fun p3244 ρ h3245 => (LA.nil h3245))) fun p3246 ρ h3247 => (LK.of rfl h3247)) fun p3248 ρ h3249 => (LK.pure rfl (LK.of (o_mod _ _ (by decide)) h3249))) fun p3250 ρ h3251 => (LK.pure rfl (LK.of rfl h3251)))) fun ρ h3274 => (LK.bool (b := fun p => p) (o := fun _ => Own.no) (LK.bind (enc := fun (p : Int) => (D.int p, Own.no)) (sp := fun _ => [some ((eLst D.int) a0, Own.no), some (D.str a1, Own.no), some ((eLst (eP2 D.int D.int)) s2577.1, Own.lst Own.no), some ((eLst D.str) s2577.2, Own.lst Own.no), some (D.int x2578, Own.no), some (D.int p2596, Own.no), some (D.int s3126, Own.no), some (D.int s3077, Own.no), some (D.int p3028, Own.no), some (D.bl p3128, Own.no)]) (LK.bind (enc := fun (p : Int) => (D.int p, Own.no)) (sp := fun _ => [some ((eLst D.int) a0, Own.no), some (D.str a1, Own.no), some ((eLst (eP2 D.int D.int)) s2577.1, Own.lst Own.no), some ((eLst D.str) s2577.2, Own.lst Own.no), some (D.int x2578, Own.no), some (D.int p2596, Own.no), some (D.int s3126, Own.no), some (D.int s3077, Own.no), some (D.int p3028, Own.no), some (D.bl p3128, Own.no)]) (LK.bind (enc := fun (q : Int) => [(D.int q, Own.no)]) (sp := fun _ => [some ((eLst D.int) a0, Own.no), some (D.str a1, Own.no), some ((eLst (eP2 D.int D.int)) s2577.1, Own.lst Own.no), some ((eLst D.str) s2577.2, Own.lst Own.no), some (D.int x2578, Own.no), some (D.int p2596, Own.no), some (D.int s3126, Own.no), some (D.int s3077, Own.no), some (D.int p3028, Own.no), some (D.bl p3128, Own.no)]) (LA.done (LA.comp (enc := fun (p : Int) => (D.int p, Own.no)) (sp := fun _ => [some ((eLst D.int) a0, Own.no), some (D.str a1, Own.no), some ((eLst (eP2 D.int D.int)) s2577.1, Own.lst Own.no), some ((eLst D.str) s2577.2, Own.lst Own.no), some (D.int x2578, Own.no), some (D.int p2596, Own.no), some (D.int s3126, Own.no), some (D.int s3077, Own.no), some (D.int p3028, Own.no), some (D.bl p3128, Own.no)]) (LK.pure (pnF 0 h3274 rfl) (LK.pure rfl (LK.po (po_ixL (e := D.int) (o := Own.no) (a0) ((3 : Int))) h3274))) fun p3289 ρ h3290 => (LA.nil h3290))) fun p3291 ρ h3292 => (LK.of rfl h3292)) fun p3293 ρ h3294 => (LK.pure rfl (LK.of (o_mod _ _ (by decide)) h3294))) fun p3295 ρ h3296 => (LK.pure rfl (LK.of rfl h3296)))))) (fun p3297 ρ h3298 _ => (LS.seq (sn := fun (s : (List Str)) => [some ((eLst D.int) a0, Own.no), some (D.str a1, Own.no), some ((eLst (eP2 D.int D.int)) s2577.1, Own.lst Own.no), some ((eLst D.str) s, Own.lst Own.no), some (D.int x2578, Own.no), some (D.int p2596, Own.no), some (D.int s3126, Own.no), some (D.int s3077, Own.no), some (D.int p3028, Own.no), some (D.bl p3128, Own.no)]) (LS.ifp (pTru (pnF 9 h3298 rfl) rfl) (fun _ => (LS.last (LS.drop (enc := fun _ => (D.non, Own.no)) (sp := fun (p : (List Str)) => [some ((eLst D.int) a0, Own.no), some (D.str a1, Own.no), some ((eLst (eP2 D.int D.int)) s2577.1, Own.lst Own.no), some ((eLst D.str) p, Own.lst Own.no), some (D.int x2578, Own.no), some (D.int p2596, Own.no), some (D.int s3126, Own.no), some (D.int s3077, Own.no), some (D.int p3028, Own.no), some (D.bl p3128, Own.no)]) (LK.appendc (encs := fun (q : Str) => [(D.str q, Own.no)]) (sp := fun _ => [some ((eLst D.int) a0, Own.no), some (D.str a1, Own.no), some ((eLst (eP2 D.int D.int)) s2577.1, Own.lst Own.no), some ((eLst D.str) s2577.2, Own.lst Own.no), some (D.int x2578, Own.no), some (D.int p2596, Own.no), some (D.int s3126, Own.no), some (D.int s3077, Own.no), some (D.int p3028, Own.no), some (D.bl p3128, Own.no)]) (sp' := fun p => [some ((eLst D.int) a0, Own.no), some (D.str a1, Own.no), some ((eLst (eP2 D.int D.int)) s2577.1, Own.lst Own.no), some ((eLst D.str) p, Own.lst Own.no), some (D.int x2578, Own.no), some (D.int p2596, Own.no), some (D.int s3126, Own.no), some (D.int s3077, Own.no), some (D.int p3028, Own.no), some (D.bl p3128, Own.no)]) (ys := fun b => s2577.2) (y := fun b => b) (e := D.str) (c := Own.no) (x0 := (.non, Own.no)) (T := fun b zs => zs) h3298 ⟨_, _, rfl⟩ (LA.done (LA.comp (enc := fun (p : Str) => (D.str p, Own.no)) (sp := fun _ => [some ((eLst D.int) a0, Own.no), some (D.str a1, Own.no), some ((eLst (eP2 D.int D.int)) s2577.1, Own.lst Own.no), some ((eLst D.str) s2577.2, Own.lst Own.no), some (D.int x2578, Own.no), some (D.int p2596, Own.no), some (D.int s3126, Own.no), some (D.int s3077, Own.no), some (D.int p3028, Own.no), some (D.bl p3128, Own.no)]) (LK.frz (e := fun p => D.str p) (o := fun _ => Own.no) (LK.bind (enc := fun (p : Str) => (D.str p, Own.no)) (sp := fun _ => [some ((eLst D.int) a0, Own.no), some (D.str a1, Own.no), some ((eLst (eP2 D.int D.int)) s2577.1, Own.lst Own.no), some ((eLst D.str) s2577.2, Own.lst Own.no), some (D.int x2578, Own.no), some (D.int p2596, Own.no), some (D.int s3126, Own.no), some (D.int s3077, Own.no), some (D.int p3028, Own.no), some (D.bl p3128, Own.no)]) (LK.pure (pn 3 h3298 rfl) (LK.pure (pnF 6 h3298 rfl) (LK.po (po_ixL (e := D.str) (o := Own.lst Own.no) (s2577.2) (s3126)) h3298))) fun p3303 ρ h3304 => (LK.bind (enc := fun (p : Str) => (D.str p, Own.no)) (sp := fun _ => [some ((eLst D.int) a0, Own.no), some (D.str a1, Own.no), some ((eLst (eP2 D.int D.int)) s2577.1, Own.lst Own.no), some ((eLst D.str) s2577.2, Own.lst Own.no), some (D.int x2578, Own.no), some (D.int p2596, Own.no), some (D.int s3126, Own.no), some (D.int s3077, Own.no), some (D.int p3028, Own.no), some (D.bl p3128, Own.no)]) (LK.pure (pn 3 h3304 rfl) (LK.pure (pnF 7 h3304 rfl) (LK.po (po_ixL (e := D.str) (o := Own.lst Own.no) (s2577.2) (s3077)) h3304))) fun p3305 ρ h3306 => (LK.po (po_addS (p3303) (p3305)) h3306)))) fun p3307 ρ h3308 => (LA.nil h3308))) (fun b => rfl) (fun b => rfl) rfl (fun _ _ => rfl)) fun p3311 ρ h3312 => (LS.nx (a := p3311) (h3312.weak (.keep (.keep (.keep (.keep (.keep (.keep (.keep (.keep (.keep (.keep Le.nil))))))))))))))) (fun _ => (LS.last (LS.drop (enc := fun _ => (D.non, Own.no)) (sp := fun (p : (List Str)) => [some ((eLst D.int) a0, Own.no), some (D.str a1, Own.no), some ((eLst (eP2 D.int D.int)) s2577.1, Own.lst Own.no), some ((eLst D.str) p, Own.lst Own.no), some (D.int x2578, Own.no), some (D.int p2596, Own.no), some (D.int s3126, Own.no), some (D.int s3077, Own.no), some (D.int p3028, Own.no), some (D.bl p3128, Own.no)]) (LK.append (e := D.str) h3298 (pCons rfl pNil) rfl rfl rfl) fun p3313 ρ h3314 => (LS.nx (a := p3313) (h3314.weak (.keep (.keep (.keep (.keep (.keep (.keep (.keep (.keep (.keep (.keep Le.nil)))))))))))))))) fun s3315 ρ h3316 => (LS.last (LS.drop (enc := fun _ => (D.non, Own.no)) (sp := fun (p : (List (Int × Int))) => [some ((eLst D.int) a0, Own.no), some (D.str a1, Own.no), some ((eLst (eP2 D.int D.int)) p, Own.lst Own.no), some ((eLst D.str) s3315, Own.lst Own.no), some (D.int x2578, Own.no), some (D.int p2596, Own.no), some (D.int s3126, Own.no), some (D.int s3077, Own.no), some (D.int p3028, Own.no), some (D.bl p3128, Own.no)]) (LK.append (e := (eP2 D.int D.int)) h3316 (pCons (pTup (pCons (pnF 6 h3316 rfl) (pCons (pnF 7 h3316 rfl) pNil)) ⟨rfl, small rfl⟩) pNil) rfl rfl rfl) fun p3317 ρ h3318 => (LS.nx (a := (p3317, s3315)) (h3318.weak (.keep (.keep (.keep (.keep (.skip (.skip (.skip (.skip (.skip (.skip Le.nil)))))))))))))))) (fun p3297 ρ h3298 _ => (LS.nx (a := (s2577.1, s2577.2)) (h3298.weak (.keep (.keep (.keep (.keep (.skip (.skip (.skip (.skip (.skip (.skip Le.nil)))))))))))))))))))))))))) fun s3319 ρ h3320 => (LS.take (a := s3319.1) h3320 rfl fun _ _ => trivial))))
theorem lk_law_due (a0 : Str) (a1 : (List (Int × Int))) : LF (r_law_due [(D.str a0, Own.no), ((eLst (eP2 D.int D.int)) a1, Own.no)]) (t_law_due a0 a1) (fun r => ((eOpt D.int) r, Own.no)) :=
  LF.run0 (s := [some (D.str a0, Own.no), some ((eLst (eP2 D.int D.int)) a1, Own.no), none, none]) (fun x => idt_opt (fun _ => rfl) x) rfl fun h0 => (LS.set (enc := fun (p : (List Str)) => ((eLst D.str) p, Own.lst Own.no)) (sp := fun _ => [some (D.str a0, Own.no), some ((eLst (eP2 D.int D.int)) a1, Own.no), none, none]) (LK.pure (pCons (pnF 0 h0 rfl) pNil) (LK.po (po_listS _) h0)) fun p3457 ρ h3458 => (LS.seq (sn := fun (s : (List Str)) => [some (D.str a0, Own.no), some ((eLst (eP2 D.int D.int)) a1, Own.no), some ((eLst D.str) s, Own.lst Own.no), none]) (LS.for_ (encx := D.int) (sh := fun (s3461 : (List Str)) => [some (D.str a0, Own.no), some ((eLst (eP2 D.int D.int)) a1, Own.no), some ((eLst D.str) s3461, Own.lst Own.no), none]) (sb := fun (x3462 : Int) (s3461 : (List Str)) => [some (D.str a0, Own.no), some ((eLst (eP2 D.int D.int)) a1, Own.no), some ((eLst D.str) s3461, Own.lst Own.no), some (D.int x3462, Own.no)]) (step := (t_law_due_l0 a0 a1)) (sp := fun _ => [some (D.str a0, Own.no), some ((eLst (eP2 D.int D.int)) a1, Own.no), some ((eLst D.str) p3457, Own.lst Own.no), none]) (xs := fun (p3459 : (List Int)) => p3459) (a := fun (p3459 : (List Int)) => p3457) (LK.range1 (pCons (pCall (pCons (pnF 1 h3458 rfl) pNil) (len_L (e := (eP2 D.int D.int)) _)) pNil) h3458) (fun p3459 ρ h => h.weak (.keep (.keep (.keep (.skip Le.nil))))) (fun x3462 s3461 ρ h => ⟨_, rfl, (h.set 3 _)⟩) (fun x3462 s3461 ρ h3463 => (LS.if_seq (LS.if_ (enc := fun (p : Bool) => !p) (sp := fun _ => [some (D.str a0, Own.no), some ((eLst (eP2 D.int D.int)) a1, Own.no), some ((eLst D.str) s3461, Own.lst Own.no), some (D.int x3462, Own.no)]) (LK.notT (b := fun p => p) (LK.tru (e := fun p => D.bl p) (b := fun p => p) (o := fun _ => Own.no) (LK.callBc (encs := fun (q : (Int × Int)) => [(D.str a0, Own.no), ((eLst D.str) s3461, Own.lst Own.no), ((eLst (eP2 D.int D.int)) (cutL a1 none (some x3462)), Own.lst Own.no), ((eP2 D.int D.int) q, Own.no)]) (sp := fun _ => [some (D.str a0, Own.no), some ((eLst (eP2 D.int D.int)) a1, Own.no), some ((eLst D.str) s3461, Own.lst Own.no), some (D.int x3462, Own.no)]) (sp' := fun _ => [some (D.str a0, Own.no), some ((eLst (eP2 D.int D.int)) a1, Own.no), some ((eLst D.str) s3461, Own.lst Own.no), some (D.int x3462, Own.no)]) (T := fun (b : (Int × Int)) (a : Bool) => a) (enc' := fun (p : Bool) => (D.bl p, Own.no)) (LA.done (LA.pure (pnF 0 h3463 rfl) (LA.pure (pn 2 h3463 rfl) (LA.pure (pSl (pnF 1 h3463 rfl) rfl (pPart (pnF 3 h3463 rfl)) (sl_L (e := (eP2 D.int D.int)) (o := Own.no) _ _ _)) (LA.comp (enc := fun (p : (Int × Int)) => ((eP2 D.int D.int) p, Own.no)) (sp := fun _ => [some (D.str a0, Own.no), some ((eLst (eP2 D.int D.int)) a1, Own.no), some ((eLst D.str) s3461, Own.lst Own.no), some (D.int x3462, Own.no)]) (LK.pure (pnF 1 h3463 rfl) (LK.pure (pnF 3 h3463 rfl) (LK.po (po_ixL (e := (eP2 D.int D.int)) (o := Own.no) (a1) (x3462)) h3463))) fun p3464 ρ h3465 => (LA.nil h3465)))))) (fun (b : (Int × Int)) => lk_law_is_proper a0 s3461 (cutL a1 none (some x3462)) b) (fun b ρ hb => trivial) (fun _ _ => rfl) (fun _ _ => rfl)) (fun _ => rfl))) (fun p3470 ρ h3471 _ => (LS.ret_seq (LS.retp (a := (some x3462)) (pnF 3 h3471 rfl) trivial))) (fun p3470 ρ h3471 _ => (LS.pass (LS.last (LS.drop (enc := fun _ => (D.non, Own.no)) (sp := fun (p : (List Str)) => [some (D.str a0, Own.no), some ((eLst (eP2 D.int D.int)) a1, Own.no), some ((eLst D.str) p, Own.lst Own.no), some (D.int x3462, Own.no)]) (LK.appendc (encs := fun (q : Str) => [(D.str q, Own.no)]) (sp := fun _ => [some (D.str a0, Own.no), some ((eLst (eP2 D.int D.int)) a1, Own.no), some ((eLst D.str) s3461, Own.lst Own.no), some (D.int x3462, Own.no)]) (sp' := fun p => [some (D.str a0, Own.no), some ((eLst (eP2 D.int D.int)) a1, Own.no), some ((eLst D.str) p, Own.lst Own.no), some (D.int x3462, Own.no)]) (ys := fun b => s3461) (y := fun b => b) (e := D.str) (c := Own.no) (x0 := (.non, Own.no)) (T := fun b zs => zs) h3471 ⟨_, _, rfl⟩ (LA.done (LA.comp (enc := fun (p : Str) => (D.str p, Own.no)) (sp := fun _ => [some (D.str a0, Own.no), some ((eLst (eP2 D.int D.int)) a1, Own.no), some ((eLst D.str) s3461, Own.lst Own.no), some (D.int x3462, Own.no)]) (LK.frz (e := fun p => D.str p) (o := fun _ => Own.no) (LK.bind (enc := fun (p : Str) => (D.str p, Own.no)) (sp := fun _ => [some (D.str a0, Own.no), some ((eLst (eP2 D.int D.int)) a1, Own.no), some ((eLst D.str) s3461, Own.lst Own.no), some (D.int x3462, Own.no)]) (LK.pure (pn 2 h3471 rfl) (LK.bind (enc := fun (p : Int) => (D.int p, Own.no)) (sp := fun _ => [some (D.str a0, Own.no), some ((eLst (eP2 D.int D.int)) a1, Own.no), some ((eLst D.str) s3461, Own.lst Own.no), some (D.int x3462, Own.no)]) (LK.bind (enc := fun (p : (Int × Int)) => ((eP2 D.int D.int) p, Own.no)) (sp := fun _ => [some (D.str a0, Own.no), some ((eLst (eP2 D.int D.int)) a1, Own.no), some ((eLst D.str) s3461, Own.lst Own.no), some (D.int x3462, Own.no)]) (LK.pure (pnF 1 h3471 rfl) (LK.pure (pnF 3 h3471 rfl) (LK.po (po_ixL (e := (eP2 D.int D.int)) (o := Own.no) (a1) (x3462)) h3471))) fun p3502 ρ h3503 => (LK.pure rfl (LK.of rfl h3503))) fun p3504 ρ h3505 => (LK.po (po_ixL (e := D.str) (o := Own.lst Own.no) (s3461) (p3504)) h3505))) fun p3506 ρ h3507 => (LK.bind (enc := fun (p : Str) => (D.str p, Own.no)) (sp := fun _ => [some (D.str a0, Own.no), some ((eLst (eP2 D.int D.int)) a1, Own.no), some ((eLst D.str) s3461, Own.lst Own.no), some (D.int x3462, Own.no)]) (LK.pure (pn 2 h3507 rfl) (LK.bind (enc := fun (p : Int) => (D.int p, Own.no)) (sp := fun _ => [some (D.str a0, Own.no), some ((eLst (eP2 D.int D.int)) a1, Own.no), some ((eLst D.str) s3461, Own.lst Own.no), some (D.int x3462, Own.no)]) (LK.bind (enc := fun (p : (Int × Int)) => ((eP2 D.int D.int) p, Own.no)) (sp := fun _ => [some (D.str a0, Own.no), some ((eLst (eP2 D.int D.int)) a1, Own.no), some ((eLst D.str) s3461, Own.lst Own.no), some (D.int x3462, Own.no)]) (LK.pure (pnF 1 h3507 rfl) (LK.pure (pnF 3 h3507 rfl) (LK.po (po_ixL (e := (eP2 D.int D.int)) (o := Own.no) (a1) (x3462)) h3507))) fun p3510 ρ h3511 => (LK.pure rfl (LK.of rfl h3511))) fun p3512 ρ h3513 => (LK.po (po_ixL (e := D.str) (o := Own.lst Own.no) (s3461) (p3512)) h3513))) fun p3514 ρ h3515 => (LK.po (po_addS (p3506) (p3514)) h3515)))) fun p3516 ρ h3517 => (LA.nil h3517))) (fun b => rfl) (fun b => rfl) rfl (fun _ _ => rfl)) fun p3520 ρ h3521 => (LS.nx (a := p3520) (h3521.weak (.keep (.keep (.keep (.skip Le.nil)))))))))))))) fun s3522 ρ h3523 => (LS.retp (a := none) rfl trivial)))
theorem lk_is_alphabet (a0 : Str) : LF (r_is_alphabet [(D.str a0, Own.no)]) (t_is_alphabet a0) (fun r => (D.bl r, Own.no)) :=
  LF.run0 (s := [some (D.str a0, Own.no), none, none]) (fun _ => rfl) rfl fun h0 => (LS.if_seq (LS.if_ (enc := fun (p : Bool) => !p) (sp := fun _ => [some (D.str a0, Own.no), none, none]) (LK.notT (b := fun p => p) (LK.bool (b := fun p => p) (o := fun _ => Own.no) (LK.pure rfl (LK.bind (enc := fun (p : Int) => (D.int p, Own.no)) (sp := fun _ => [some (D.str a0, Own.no), none, none]) (LK.pure (pCons (pnF 0 h0 rfl) pNil) (LK.po (po_lenS _) h0)) fun p3759 ρ h3760 => (LK.of (q3 rfl rfl rfl) h3760))))) (fun p3761 ρ h3762 _ => (LS.ret_seq (LS.retp (a := false) rfl trivial))) (fun p3761 ρ h3762 _ => (LS.pass (LS.seq (sn := fun (s : Unit) => [some (D.str a0, Own.no), none, none]) (LS.forp (encx := D.str) (sh := fun (s3763 : Unit) => [some (D.str a0, Own.no), none, none]) (sb := fun (x3764 : Str) (s3763 : Unit) => [some (D.str a0, Own.no), some (D.str x3764, Own.no), none]) (step := t_is_alphabet_l0) (a := ()) (pItems (pnF 0 h3762 rfl) rfl) (h3762.weak (.keep (.skip (.skip Le.nil)))) (fun x3764 s3763 ρ h => ⟨_, rfl, (h.set 1 _)⟩) (fun x3764 s3763 ρ h3765 => (LS.ifp (pNotT (pBool (p3 rfl (pnF 1 h3765 rfl) rfl rfl rfl))) (fun _ => (LS.retp (a := false) rfl trivial)) (fun _ => (LS.nx (a := ()) (h3765.weak (.keep (.skip (.skip Le.nil))))))))) fun s3766 ρ h3767 => (LS.seq (sn := fun (s : Unit) => [some (D.str a0, Own.no), none, none]) (LS.for_ (encx := D.int) (sh := fun (s3774 : Unit) => [some (D.str a0, Own.no), none, none]) (sb := fun (x3775 : Int) (s3774 : Unit) => [some (D.str a0, Own.no), none, some (D.int x3775, Own.no)]) (step := (t_is_alphabet_l1 a0)) (sp := fun _ => [some (D.str a0, Own.no), none, none]) (xs := fun (p3772 : (List Int)) => p3772) (a := fun (p3772 : (List Int)) => ()) (LK.bind (enc := fun (q : Int) => [(D.int (1 : Int), Own.no), (D.int q, Own.no)]) (sp := fun _ => [some (D.str a0, Own.no), none, none]) (LA.done (LA.pure rfl (LA.comp (enc := fun (p : Int) => (D.int p, Own.no)) (sp := fun _ => [some (D.str a0, Own.no), none, none]) (LK.pure (pCons (pnF 0 h3767 rfl) pNil) (LK.po (po_lenS _) h3767)) fun p3768 ρ h3769 => (LA.nil h3769)))) fun p3770 ρ h3771 => LK.po (range2_k _ _ ) h3771) (fun p3772 ρ h => h.weak (.keep (.skip (.skip Le.nil)))) (fun x3775 s3774 ρ h => ⟨_, rfl, (h.set 2 _)⟩) (fun x3775 s3774 ρ h3776 => (LS.if_ (enc := fun (p : Bool) => p) (sp := fun _ => [some (D.str a0, Own.no), none, some (D.int x3775, Own.no)]) (LK.bool (b := fun p => p) (o := fun _ => Own.no) (LK.bind (enc := fun (p : Str) => (D.str p, Own.no)) (sp := fun _ => [some (D.str a0, Own.no), none, some (D.int x3775, Own.no)]) (LK.pure (pnF 0 h3776 rfl) (LK.pure (p2 (pnF 2 h3776 rfl) rfl rfl) (LK.po (po_ixS (a0) ((x3775 - (1 : Int)))) h3776))) fun p3777 ρ h3778 => (LK.bind (enc := fun (p : Str) => (D.str p, Own.no)) (sp := fun _ => [some (D.str a0, Own.no), none, some (D.int x3775, Own.no)]) (LK.pure (pnF 0 h3778 rfl) (LK.pure (pnF 2 h3778 rfl) (LK.po (po_ixS (a0) (x3775)) h3778))) fun p3779 ρ h3780 => (LK.of rfl h3780)))) (fun p3781 ρ h3782 _ => (LS.retp (a := false) rfl trivial)) (fun p3781 ρ h3782 _ => (LS.nx (a := ()) (h3782.weak (.keep (.skip (.skip Le.nil))))))))) fun s3783 ρ h3784 => (LS.retp (a := true) rfl trivial)))))))
theorem lk_checked_alphabet (a0 : Str) : LF (r_checked_alphabet [(D.str a0, Own.no)]) (t_checked_alphabet a0) (fun r => (D.str r, Own.no)) :=
  LF.run0 (s := [some (D.str a0, Own.no)]) (fun _ => rfl) rfl fun h0 => (LS.if_seq (LS.if_ (enc := fun (p : Bool) => !p) (sp := fun _ => [some (D.str a0, Own.no)]) (LK.notT (b := fun p => p) (LK.tru (e := fun p => D.bl p) (b := fun p => p) (o := fun _ => Own.no) (LK.callB (pCons (pnF 0 h0 rfl) pNil) h0 trivial (lk_is_alphabet a0)) (fun _ => rfl))) (fun p3789 ρ h3790 _ => (LS.raise_seq (LS.raise (h := mNx) (pCons (pnF 0 h3790 rfl) pNil) ⟨rfl, by decide⟩ rfl (by simp [indF, show ∀ a, indD (D.str a) Own.no = true from (fun _ => rfl)]) trivial))) (fun p3789 ρ h3790 _ => (LS.pass (LS.retp (a := a0) (pnF 0 h3790 rfl) trivial)))))
theorem fld_Joins_alphabet {ρ : Env} (x : O_Joins) : gFld tab "alphabet" (e_Joins x, Own.no) ρ = .ok (D.str x.alphabet, Own.no) ρ := by simp [gFld, e_Joins, hasF, tab, List.lookup, fldOwn, ownF]
theorem fld_Joins_alphabetO {ρ : Env} (x : O_Joins) : gFld tab "alphabet" (e_Joins x, own_Joins) ρ = .ok (D.str x.alphabet, Own.no) ρ := by simp [gFld, e_Joins, hasF, tab, List.lookup, fldOwn, ownF]
theorem gp_Joins_alphabet {s : Spc} {i : Nat} (x : O_Joins) (h : s[i]? = some (some (e_Joins x, own_Joins))) : getP tab (.f i "alphabet") s = some (D.str x.alphabet, Own.no) := getP_f h (by simp [hasF, tab, List.lookup]) (by simp [List.lookup]) (by simp [ownF, List.lookup])
theorem sp_Joins_alphabet {s : Spc} {i : Nat} (x : O_Joins) (v : Str) (h : s[i]? = some (some (e_Joins x, own_Joins))) : setP (.f i "alphabet") (D.str v) s = s.set i (some (e_Joins { x with alphabet := v }, own_Joins)) := (setP_f h).trans (by simp [fput, e_Joins])
theorem fs_Joins_alphabet (x : O_Joins) (v : Str) : FS tab "alphabet" (e_Joins x) own_Joins (D.str v, Own.no) (e_Joins { x with alphabet := v }) := ⟨_, _, _, rfl, rfl, by simp [hasF, tab, List.lookup], by simp, by simp, by simp [fput, e_Joins], by simp [oput, ownF, List.lookup, sameOwn]⟩
theorem fld_Joins_pairs {ρ : Env} (x : O_Joins) : gFld tab "pairs" (e_Joins x, Own.no) ρ = .ok ((eTup (eP2 D.int D.int)) x.pairs, Own.no) ρ := by simp [gFld, e_Joins, hasF, tab, List.lookup, fldOwn, ownF]
theorem fld_Joins_pairsO {ρ : Env} (x : O_Joins) : gFld tab "pairs" (e_Joins x, own_Joins) ρ = .ok ((eTup (eP2 D.int D.int)) x.pairs, Own.no) ρ := by simp [gFld, e_Joins, hasF, tab, List.lookup, fldOwn, ownF]
theorem gp_Joins_pairs {s : Spc} {i : Nat} (x : O_Joins) (h : s[i]? = some (some (e_Joins x, own_Joins))) : getP tab (.f i "pairs") s = some ((eTup (eP2 D.int D.int)) x.pairs, Own.no) := getP_f h (by simp [hasF, tab, List.lookup]) (by simp [List.lookup]) (by simp [ownF, List.lookup])
theorem sp_Joins_pairs {s : Spc} {i : Nat} (x : O_Joins) (v : (List (Int × Int))) (h : s[i]? = some (some (e_Joins x, own_Joins))) : setP (.f i "pairs") ((eTup (eP2 D.int D.int)) v) s = s.set i (some (e_Joins { x with pairs := v }, own_Joins)) := (setP_f h).trans (by simp [fput, e_Joins])
theorem fs_Joins_pairs (x : O_Joins) (v : (List (Int × Int))) : FS tab "pairs" (e_Joins x) own_Joins ((eTup (eP2 D.int D.int)) v, Own.no) (e_Joins { x with pairs := v }) := ⟨_, _, _, rfl, rfl, by simp [hasF, tab, List.lookup], by simp, by simp, by simp [fput, e_Joins], by simp [oput, ownF, List.lookup, sameOwn]⟩
theorem fld_Joins_texts {ρ : Env} (x : O_Joins) : gFld tab "texts" (e_Joins x, Own.no) ρ = .ok ((eLst D.str) x.texts, Own.no) ρ := by simp [gFld, e_Joins, hasF, tab, List.lookup, fldOwn, ownF]
theorem fld_Joins_textsO {ρ : Env} (x : O_Joins) : gFld tab "texts" (e_Joins x, own_Joins) ρ = .ok ((eLst D.str) x.texts, Own.lst Own.no) ρ := by simp [gFld, e_Joins, hasF, tab, List.lookup, fldOwn, ownF]
theorem gp_Joins_texts {s : Spc} {i : Nat} (x : O_Joins) (h : s[i]? = some (some (e_Joins x, own_Joins))) : getP tab (.f i "texts") s = some ((eLst D.str) x.texts, Own.lst Own.no) := getP_f h (by simp [hasF, tab, List.lookup]) (by simp [List.lookup]) (by simp [ownF, List.lookup])
theorem sp_Joins_texts {s : Spc} {i : Nat} (x : O_Joins) (v : (List Str)) (h : s[i]? = some (some (e_Joins x, own_Joins))) : setP (.f i "texts") ((eLst D.str) v) s = s.set i (some (e_Joins { x with texts := v }, own_Joins)) := (setP_f h).trans (by simp [fput, e_Joins])
theorem fs_Joins_texts (x : O_Joins) (v : (List Str)) : FS tab "texts" (e_Joins x) own_Joins ((eLst D.str) v, Own.lst Own.no) (e_Joins { x with texts := v }) := ⟨_, _, _, rfl, rfl, by simp [hasF, tab, List.lookup], by simp, by simp, by simp [fput, e_Joins], by simp [oput, ownF, List.lookup, sameOwn]⟩
theorem fld_Joins_ranks {ρ : Env} (x : O_Joins) : gFld tab "ranks" (e_Joins x, Own.no) ρ = .ok ((eDit kII D.int) x.ranks, Own.no) ρ := by simp [gFld, e_Joins, hasF, tab, List.lookup, fldOwn, ownF]
theorem fld_Joins_ranksO {ρ : Env} (x : O_Joins) : gFld tab "ranks" (e_Joins x, own_Joins) ρ = .ok ((eDit kII D.int) x.ranks, Own.lst Own.no) ρ := by simp [gFld, e_Joins, hasF, tab, List.lookup, fldOwn, ownF]
theorem gp_Joins_ranks {s : Spc} {i : Nat} (x : O_Joins) (h : s[i]? = some (some (e_Joins x, own_Joins))) : getP tab (.f i "ranks") s = some ((eDit kII D.int) x.ranks, Own.lst Own.no) := getP_f h (by simp [hasF, tab, List.lookup]) (by simp [List.lookup]) (by simp [ownF, List.lookup])
theorem sp_Joins_ranks {s : Spc} {i : Nat} (x : O_Joins) (v : (List ((Int × Int) × Int))) (h : s[i]? = some (some (e_Joins x, own_Joins))) : setP (.f i "ranks") ((eDit kII D.int) v) s = s.set i (some (e_Joins { x with ranks := v }, own_Joins)) := (setP_f h).trans (by simp [fput, e_Joins])
theorem fs_Joins_ranks (x : O_Joins) (v : (List ((Int × Int) × Int))) : FS tab "ranks" (e_Joins x) own_Joins ((eDit kII D.int) v, Own.lst Own.no) (e_Joins { x with ranks := v }) := ⟨_, _, _, rfl, rfl, by simp [hasF, tab, List.lookup], by simp, by simp, by simp [fput, e_Joins], by simp [oput, ownF, List.lookup, sameOwn]⟩
theorem fld_Joins_numbers {ρ : Env} (x : O_Joins) : gFld tab "numbers" (e_Joins x, Own.no) ρ = .ok ((eDic kS D.int) x.numbers, Own.no) ρ := by simp [gFld, e_Joins, hasF, tab, List.lookup, fldOwn, ownF]
theorem fld_Joins_numbersO {ρ : Env} (x : O_Joins) : gFld tab "numbers" (e_Joins x, own_Joins) ρ = .ok ((eDic kS D.int) x.numbers, Own.lst Own.no) ρ := by simp [gFld, e_Joins, hasF, tab, List.lookup, fldOwn, ownF]
theorem gp_Joins_numbers {s : Spc} {i : Nat} (x : O_Joins) (h : s[i]? = some (some (e_Joins x, own_Joins))) : getP tab (.f i "numbers") s = some ((eDic kS D.int) x.numbers, Own.lst Own.no) := getP_f h (by simp [hasF, tab, List.lookup]) (by simp [List.lookup]) (by simp [ownF, List.lookup])
theorem sp_Joins_numbers {s : Spc} {i : Nat} (x : O_Joins) (v : (List (Str × Int))) (h : s[i]? = some (some (e_Joins x, own_Joins))) : setP (.f i "numbers") ((eDic kS D.int) v) s = s.set i (some (e_Joins { x with numbers := v }, own_Joins)) := (setP_f h).trans (by simp [fput, e_Joins])
theorem fs_Joins_numbers (x : O_Joins) (v : (List (Str × Int))) : FS tab "numbers" (e_Joins x) own_Joins ((eDic kS D.int) v, Own.lst Own.no) (e_Joins { x with numbers := v }) := ⟨_, _, _, rfl, rfl, by simp [hasF, tab, List.lookup], by simp, by simp, by simp [fput, e_Joins], by simp [oput, ownF, List.lookup, sameOwn]⟩
theorem fld_Joins_longest {ρ : Env} (x : O_Joins) : gFld tab "longest" (e_Joins x, Own.no) ρ = .ok (D.int x.longest, Own.no) ρ := by simp [gFld, e_Joins, hasF, tab, List.lookup, fldOwn, ownF]
theorem fld_Joins_longestO {ρ : Env} (x : O_Joins) : gFld tab "longest" (e_Joins x, own_Joins) ρ = .ok (D.int x.longest, Own.no) ρ := by simp [gFld, e_Joins, hasF, tab, List.lookup, fldOwn, ownF]
theorem gp_Joins_longest {s : Spc} {i : Nat} (x : O_Joins) (h : s[i]? = some (some (e_Joins x, own_Joins))) : getP tab (.f i "longest") s = some (D.int x.longest, Own.no) := getP_f h (by simp [hasF, tab, List.lookup]) (by simp [List.lookup]) (by simp [ownF, List.lookup])
theorem sp_Joins_longest {s : Spc} {i : Nat} (x : O_Joins) (v : Int) (h : s[i]? = some (some (e_Joins x, own_Joins))) : setP (.f i "longest") (D.int v) s = s.set i (some (e_Joins { x with longest := v }, own_Joins)) := (setP_f h).trans (by simp [fput, e_Joins])
theorem fs_Joins_longest (x : O_Joins) (v : Int) : FS tab "longest" (e_Joins x) own_Joins (D.int v, Own.no) (e_Joins { x with longest := v }) := ⟨_, _, _, rfl, rfl, by simp [hasF, tab, List.lookup], by simp, by simp, by simp [fput, e_Joins], by simp [oput, ownF, List.lookup, sameOwn]⟩
theorem ob_Joins_is_proper (x : O_Joins) : isOb "Joins" "is_proper" (e_Joins x, Own.no) = true := by simp [isOb, e_Joins, List.lookup]
theorem ob_Joins_is_properO (x : O_Joins) : isOb "Joins" "is_proper" (e_Joins x, own_Joins) = true := by simp [isOb, e_Joins, List.lookup]
theorem ob_Joins_take (x : O_Joins) : isOb "Joins" "take" (e_Joins x, Own.no) = true := by simp [isOb, e_Joins, List.lookup]
theorem ob_Joins_takeO (x : O_Joins) : isOb "Joins" "take" (e_Joins x, own_Joins) = true := by simp [isOb, e_Joins, List.lookup]
theorem lk_is_between (a0 : Int) (a1 : Int) (a2 : Int) : LF (r_is_between [(D.int a0, Own.no), (D.int a1, Own.no), (D.int a2, Own.no)]) (t_is_between a0 a1 a2) (fun r => (D.bl r, Own.no)) :=
  LF.run0 (s := [some (D.int a0, Own.no), some (D.int a1, Own.no), some (D.int a2, Own.no)]) (fun _ => rfl) rfl fun h0 => (LS.retp (a := (true && ((!false) && ((decide (a1 ≤ a0)) && (decide (a0 ≤ a2)))))) (pAndV (pCall (pCons (pnF 0 h0 rfl) (pCons rfl pNil)) (isi_ok rfl rfl (by decide))) (pAndV (pNotV (pCall (pCons (pnF 0 h0 rfl) (pCons rfl pNil)) (isi_ok rfl rfl (by decide)))) (p3 (pnF 1 h0 rfl) (pnF 0 h0 rfl) (pnF 2 h0 rfl) rfl rfl))) trivial)
theorem lk_lowest_pair (a0 : (List ((Int × Int) × Int))) (a1 : (List Int)) : LF (r_lowest_pair [((eDit kII D.int) a0, Own.no), ((eTup D.int) a1, Own.no)]) (t_lowest_pair a0 a1) (fun r => ((eOpt (eP2 D.int D.int)) r, Own.no)) :=
  LF.run0 (s := [some ((eDit kII D.int) a0, Own.no), some ((eTup D.int) a1, Own.no), none, none, none]) (fun x => idt_opt (fun x => idt_p2 (fun _ => rfl) (fun _ => rfl) x _) x) rfl fun h0 => (LS.setp h0 rfl fun ρ h3927 => (LS.seq (sn := fun (s : (Option (Int × Int))) => [some ((eDit kII D.int) a0, Own.no), some ((eTup D.int) a1, Own.no), some ((eOpt (eP2 D.int D.int)) s, Own.no), none, none]) (LS.for_ (encx := D.int) (sh := fun (s3930 : (Option (Int × Int))) => [some ((eDit kII D.int) a0, Own.no), some ((eTup D.int) a1, Own.no), some ((eOpt (eP2 D.int D.int)) s3930, Own.no), none, none]) (sb := fun (x3931 : Int) (s3930 : (Option (Int × Int))) => [some ((eDit kII D.int) a0, Own.no), some ((eTup D.int) a1, Own.no), some ((eOpt (eP2 D.int D.int)) s3930, Own.no), some (D.int x3931, Own.no), none]) (step := (t_lowest_pair_l0 a0 a1)) (sp := fun _ => [some ((eDit kII D.int) a0, Own.no), some ((eTup D.int) a1, Own.no), some (eNon (), Own.no), none, none]) (xs := fun (p3928 : (List Int)) => p3928) (a := fun (p3928 : (List Int)) => none) (LK.range1 (pCons (p2 (pCall (pCons (pnF 1 h3927 rfl) pNil) (len_T (e := D.int) _)) rfl rfl) pNil) h3927) (fun p3928 ρ h => h.weak (.keep (.keep (.keep (.skip (.skip Le.nil)))))) (fun x3931 s3930 ρ h => ⟨_, rfl, (h.set 3 _)⟩) (fun x3931 s3930 ρ h3932 => (LS.set (enc := fun (p : (Int × Int)) => ((eP2 D.int D.int) p, Own.no)) (sp := fun _ => [some ((eDit kII D.int) a0, Own.no), some ((eTup D.int) a1, Own.no), some ((eOpt (eP2 D.int D.int)) s3930, Own.no), some (D.int x3931, Own.no), none]) (LK.bind (enc := fun (q : (Int × Int)) => [(D.int q.1, Own.no), (D.int q.2, Own.no)]) (sp := fun _ => [some ((eDit kII D.int) a0, Own.no), some ((eTup D.int) a1, Own.no), some ((eOpt (eP2 D.int D.int)) s3930, Own.no), some (D.int x3931, Own.no), none]) (LA.done (LA.comp (enc := fun (p : Int) => (D.int p, Own.no)) (sp := fun _ => [some ((eDit kII D.int) a0, Own.no), some ((eTup D.int) a1, Own.no), some ((eOpt (eP2 D.int D.int)) s3930, Own.no), some (D.int x3931, Own.no), none]) (LK.pure (pnF 1 h3932 rfl) (LK.pure (pnF 3 h3932 rfl) (LK.po (po_ixT (e := D.int) (a1) (x3931)) h3932))) fun p3933 ρ h3934 => (LA.comp (enc := fun (p : Int) => (D.int p, Own.no)) (sp := fun _ => [some ((eDit kII D.int) a0, Own.no), some ((eTup D.int) a1, Own.no), some ((eOpt (eP2 D.int D.int)) s3930, Own.no), some (D.int x3931, Own.no), none]) (LK.pure (pnF 1 h3934 rfl) (LK.pure (p2 (pnF 3 h3934 rfl) rfl rfl) (LK.po (po_ixT (e := D.int) (a1) ((x3931 + (1 : Int)))) h3934))) fun p3935 ρ h3936 => (LA.nil h3936)))) fun p3937 ρ h3938 => (LK.of (by first | rfl | exact if_pos ⟨rfl, small rfl⟩) h3938)) fun p3939 ρ h3940 => (LS.if_ (enc := id) (sp := fun _ => [some ((eDit kII D.int) a0, Own.no), some ((eTup D.int) a1, Own.no), some ((eOpt (eP2 D.int D.int)) s3930, Own.no), some (D.int x3931, Own.no), some ((eP2 D.int D.int) p3939, Own.no)]) (LK.andT (LK.of (enc := id) (pBool (p2 (pnF 4 h3940 rfl) (pnF 0 h3940 rfl) (in_dit (e := D.int) false (p3939) (a0)))) h3940) fun ρ h3954 => (LK.orT (LK.of (enc := id) (pBool (p2 (pnF 2 h3954 rfl) rfl (is_opt (e := (eP2 D.int D.int)) (fun _ => ⟨(fun e => nomatch e), (fun e => nomatch e)⟩) _))) h3954) fun ρ h3961 => (LK.bool (b := fun p => p) (o := fun _ => Own.no) (LK.bind (enc := fun (p : Int) => (D.int p, Own.no)) (sp := fun _ => [some ((eDit kII D.int) a0, Own.no), some ((eTup D.int) a1, Own.no), some ((eOpt (eP2 D.int D.int)) s3930, Own.no), some (D.int x3931, Own.no), some ((eP2 D.int D.int) p3939, Own.no)]) (LK.pure (pnF 0 h3961 rfl) (LK.pure (pnF 4 h3961 rfl) (LK.po (po_dit (e := D.int) (o := Own.no) (a0) (p3939)) h3961))) fun p3962 ρ h3963 => (LK.bind (enc := fun (p : Int) => (D.int p, Own.no)) (sp := fun _ => [some ((eDit kII D.int) a0, Own.no), some ((eTup D.int) a1, Own.no), some ((eOpt (eP2 D.int D.int)) s3930, Own.no), some (D.int x3931, Own.no), some ((eP2 D.int D.int) p3939, Own.no)]) (LK.pure (pnF 0 h3963 rfl) (LK.bind (enc := fun (p : (Int × Int)) => ((eP2 D.int D.int) p, Own.no)) (sp := fun _ => [some ((eDit kII D.int) a0, Own.no), some ((eTup D.int) a1, Own.no), some ((eOpt (eP2 D.int D.int)) s3930, Own.no), some (D.int x3931, Own.no), some ((eP2 D.int D.int) p3939, Own.no)]) (LK.some (e := (eP2 D.int D.int)) (pnF 2 h3963 rfl) h3963) fun p3964 ρ h3965 => (LK.po (po_dit (e := D.int) (o := Own.no) (a0) (p3964)) h3965))) fun p3966 ρ h3967 => (LK.of rfl h3967)))))) (fun p3968 ρ h3969 _ => (LS.last (LS.setp h3969 (pnF 4 h3969 rfl) fun ρ h3970 => (LS.nx (a := (some p3939)) (h3970.weak (.keep (.keep (.keep (.skip (.skip Le.nil)))))))))) (fun p3968 ρ h3969 _ => (LS.nx (a := s3930) (h3969.weak (.keep (.keep (.keep (.skip (.skip Le.nil)))))))))))) fun s3971 ρ h3972 => (LS.retp (a := s3971) (pnF 2 h3972 rfl) trivial)))
theorem lk_put_together (a0 : (List Int)) (a1 : (Int × Int)) (a2 : Int) : LF (r_put_together [((eTup D.int) a0, Own.no), ((eP2 D.int D.int) a1, Own.no), (D.int a2, Own.no)]) (t_put_together a0 a1 a2) (fun r => ((eTup D.int) r, Own.no)) :=
  LF.run0 (s := [some ((eTup D.int) a0, Own.no), some ((eP2 D.int D.int) a1, Own.no), some (D.int a2, Own.no), none, none]) (fun x => idt_tup (fun _ => rfl) x _) rfl fun h0 => (LS.setp h0 (pLst pNil ⟨rfl, small rfl⟩) fun ρ h4089 => (LS.setp h4089 rfl fun ρ h4090 => (LS.seq (sn := fun (s : ((List Int) × Int)) => [some ((eTup D.int) a0, Own.no), some ((eP2 D.int D.int) a1, Own.no), some (D.int a2, Own.no), some ((eLst D.int) s.1, Own.lst Own.no), some (D.int s.2, Own.no)]) (LS.while_ (sh := fun (s4091 : ((List Int) × Int)) => [some ((eTup D.int) a0, Own.no), some ((eP2 D.int D.int) a1, Own.no), some (D.int a2, Own.no), some ((eLst D.int) s4091.1, Own.lst Own.no), some (D.int s4091.2, Own.no)]) (t := (t_put_together_t0 a0)) (b := (t_put_together_l0 a0 a1 a2)) (a := ([], (0 : Int))) (h4090.weak (.keep (.keep (.keep (.keep (.keep Le.nil)))))) (fun s4091 ρ h4093 => (LK.of (enc := id) (pBool (p2 (pnF 4 h4093 rfl) (pCall (pCons (pnF 0 h4093 rfl) pNil) (len_T (e := D.int) _)) rfl)) h4093)) (fun s4091 ρ h4093 => (LS.if_ (enc := id) (sp := fun _ => [some ((eTup D.int) a0, Own.no), some ((eP2 D.int D.int) a1, Own.no), some (D.int a2, Own.no), some ((eLst D.int) s4091.1, Own.lst Own.no), some (D.int s4091.2, Own.no)]) (LK.andT (LK.of (enc := id) (pBool (p2 (p2 (pnF 4 h4093 rfl) rfl rfl) (pCall (pCons (pnF 0 h4093 rfl) pNil) (len_T (e := D.int) _)) rfl)) h4093) fun ρ h4108 => (LK.bool (b := fun p => p) (o := fun _ => Own.no) (LK.bind (enc := fun (p : (Int × Int)) => ((eP2 D.int D.int) p, Own.no)) (sp := fun _ => [some ((eTup D.int) a0, Own.no), some ((eP2 D.int D.int) a1, Own.no), some (D.int a2, Own.no), some ((eLst D.int) s4091.1, Own.lst Own.no), some (D.int s4091.2, Own.no)]) (LK.bind (enc := fun (q : (Int × Int)) => [(D.int q.1, Own.no), (D.int q.2, Own.no)]) (sp := fun _ => [some ((eTup D.int) a0, Own.no), some ((eP2 D.int D.int) a1, Own.no), some (D.int a2, Own.no), some ((eLst D.int) s4091.1, Own.lst Own.no), some (D.int s4091.2, Own.no)]) (LA.done (LA.comp (enc := fun (p : Int) => (D.int p, Own.no)) (sp := fun _ => [some ((eTup D.int) a0, Own.no), some ((eP2 D.int D.int) a1, Own.no), some (D.int a2, Own.no), some ((eLst D.int) s4091.1, Own.lst Own.no), some (D.int s4091.2, Own.no)]) (LK.pure (pnF 0 h4108 rfl) (LK.pure (pnF 4 h4108 rfl) (LK.po (po_ixT (e := D.int) (a0) (s4091.2)) h4108))) fun p4115 ρ h4116 => (LA.comp (enc := fun (p : Int) => (D.int p, Own.no)) (sp := fun _ => [some ((eTup D.int) a0, Own.no), some ((eP2 D.int D.int) a1, Own.no), some (D.int a2, Own.no), some ((eLst D.int) s4091.1, Own.lst Own.no), some (D.int s4091.2, Own.no)]) (LK.pure (pnF 0 h4116 rfl) (LK.pure (p2 (pnF 4 h4116 rfl) rfl rfl) (LK.po (po_ixT (e := D.int) (a0) ((s4091.2 + (1 : Int)))) h4116))) fun p4117 ρ h4118 => (LA.nil h4118)))) fun p4119 ρ h4120 => (LK.of (by first | rfl | exact if_pos ⟨rfl, small rfl⟩) h4120)) fun p4121 ρ h4122 => (LK.pure (pnF 1 h4122 rfl) (LK.of (pu_eq (e := (eP2 D.int D.int)) (eqe_p2T eqe_int eqe_int) (p4121) (a1)) h4122))))) (fun p4123 ρ h4124 _ => (LS.drop (enc := fun _ => (D.non, Own.no)) (sp := fun (p : (List Int)) => [some ((eTup D.int) a0, Own.no), some ((eP2 D.int D.int) a1, Own.no), some (D.int a2, Own.no), some ((eLst D.int) p, Own.lst Own.no), some (D.int s4091.2, Own.no)]) (LK.append (e := D.int) h4124 (pCons (pnF 2 h4124 rfl) pNil) rfl rfl rfl) fun p4125 ρ h4126 => (LS.last (LS.set (enc := fun p => (D.int p, Own.no)) (sp := fun _ => [some ((eTup D.int) a0, Own.no), some ((eP2 D.int D.int) a1, Own.no), some (D.int a2, Own.no), some ((eLst D.int) p4125, Own.lst Own.no), some (D.int s4091.2, Own.no)]) (LK.of (p2 (pnF 4 h4126 rfl) rfl rfl) h4126) fun v4128 ρ h4127 => (LS.nx (a := (p4125, v4128)) (h4127.weak (.keep (.keep (.keep (.keep (.keep Le.nil))))))))))) (fun p4123 ρ h4124 _ => (LS.drop (enc := fun _ => (D.non, Own.no)) (sp := fun (p : (List Int)) => [some ((eTup D.int) a0, Own.no), some ((eP2 D.int D.int) a1, Own.no), some (D.int a2, Own.no), some ((eLst D.int) p, Own.lst Own.no), some (D.int s4091.2, Own.no)]) (LK.appendc (encs := fun (q : Int) => [(D.int q, Own.no)]) (sp := fun _ => [some ((eTup D.int) a0, Own.no), some ((eP2 D.int D.int) a1, Own.no), some (D.int a2, Own.no), some ((eLst D.int) s4091.1, Own.lst Own.no), some (D.int s4091.2, Own.no)]) (sp' := fun p => [some ((eTup D.int) a0, Own.no), some ((eP2 D.int D.int) a1, Own.no), some (D.int a2, Own.no), some ((eLst D.int) p, Own.lst Own.no), some (D.int s4091.2, Own.no)]) (ys := fun b => s4091.1) (y := fun b => b) (e := D.int) (c := Own.no) (x0 := (.non, Own.no)) (T := fun b zs => zs) h4124 ⟨_, _, rfl⟩ (LA.done (LA.comp (enc := fun (p : Int) => (D.int p, Own.no)) (sp := fun _ => [some ((eTup D.int) a0, Own.no), some ((eP2 D.int D.int) a1, Own.no), some (D.int a2, Own.no), some ((eLst D.int) s4091.1, Own.lst Own.no), some (D.int s4091.2, Own.no)]) (LK.pure (pnF 0 h4124 rfl) (LK.pure (pnF 4 h4124 rfl) (LK.po (po_ixT (e := D.int) (a0) (s4091.2)) h4124))) fun p4129 ρ h4130 => (LA.nil h4130))) (fun b => rfl) (fun b => rfl) rfl (fun _ _ => rfl)) fun p4133 ρ h4134 => (LS.last (LS.set (enc := fun p => (D.int p, Own.no)) (sp := fun _ => [some ((eTup D.int) a0, Own.no), some ((eP2 D.int D.int) a1, Own.no), some (D.int a2, Own.no), some ((eLst D.int) p4133, Own.lst Own.no), some (D.int s4091.2, Own.no)]) (LK.of (p2 (pnF 4 h4134 rfl) rfl rfl) h4134) fun v4136 ρ h4135 => (LS.nx (a := (p4133, v4136)) (h4135.weak (.keep (.keep (.keep (.keep (.keep Le.nil)))))))))))))) fun s4137 ρ h4138 => (LS.retp (a := s4137.1) (pCall (pCons (pn 3 h4138 rfl) pNil) (tuple_L (e := D.int) (o := Own.lst Own.no) _)) trivial))))
theorem lk_cut_row (a0 : (List ((Int × Int) × Int))) (a1 : Int) (a2 : (List Int)) : LF (r_cut_row [((eDit kII D.int) a0, Own.no), (D.int a1, Own.no), ((eTup D.int) a2, Own.no)]) (t_cut_row a0 a1 a2) (fun r => ((eTup D.int) r, Own.no)) :=
  LF.run0 (s := [some ((eDit kII D.int) a0, Own.no), some (D.int a1, Own.no), some ((eTup D.int) a2, Own.no), none]) (fun x => idt_tup (fun _ => rfl) x _) rfl fun h0 => (LS.set (enc := fun (p : (Option (Int × Int))) => ((eOpt (eP2 D.int D.int)) p, Own.no)) (sp := fun _ => [some ((eDit kII D.int) a0, Own.no), some (D.int a1, Own.no), some ((eTup D.int) a2, Own.no), none]) (LK.frz (e := fun p => (eOpt (eP2 D.int D.int)) p) (o := fun _ => Own.no) (LK.callB (pCons (pnF 0 h0 rfl) (pCons (pnF 2 h0 rfl) pNil)) h0 trivial (lk_lowest_pair a0 a2))) fun p4051 ρ h4052 => (LS.seq (sn := fun (s : ((List Int) × (Option (Int × Int)))) => [some ((eDit kII D.int) a0, Own.no), some (D.int a1, Own.no), some ((eTup D.int) s.1, Own.no), some ((eOpt (eP2 D.int D.int)) s.2, Own.no)]) (LS.while_ (sh := fun (s4053 : ((List Int) × (Option (Int × Int)))) => [some ((eDit kII D.int) a0, Own.no), some (D.int a1, Own.no), some ((eTup D.int) s4053.1, Own.no), some ((eOpt (eP2 D.int D.int)) s4053.2, Own.no)]) (t := t_cut_row_t0) (b := (t_cut_row_l0 a0 a1)) (a := (a2, p4051)) (h4052.weak (.keep (.keep (.keep (.keep Le.nil))))) (fun s4053 ρ h4055 => (LK.of (enc := id) (pBool (p2 (pnF 3 h4055 rfl) rfl (isNot_opt (e := (eP2 D.int D.int)) (fun _ => ⟨(fun e => nomatch e), (fun e => nomatch e)⟩) _))) h4055)) (fun s4053 ρ h4055 => (LS.set (enc := fun (p : (List Int)) => ((eTup D.int) p, Own.no)) (sp := fun _ => [some ((eDit kII D.int) a0, Own.no), some (D.int a1, Own.no), some ((eTup D.int) s4053.1, Own.no), some ((eOpt (eP2 D.int D.int)) s4053.2, Own.no)]) (LK.frz (e := fun p => (eTup D.int) p) (o := fun _ => Own.no) (LK.callBc (encs := fun (q : ((Int × Int) × Int)) => [((eTup D.int) s4053.1, Own.no), ((eP2 D.int D.int) q.1, Own.no), (D.int q.2, Own.no)]) (sp := fun _ => [some ((eDit kII D.int) a0, Own.no), some (D.int a1, Own.no), some ((eTup D.int) s4053.1, Own.no), some ((eOpt (eP2 D.int D.int)) s4053.2, Own.no)]) (sp' := fun _ => [some ((eDit kII D.int) a0, Own.no), some (D.int a1, Own.no), some ((eTup D.int) s4053.1, Own.no), some ((eOpt (eP2 D.int D.int)) s4053.2, Own.no)]) (T := fun (b : ((Int × Int) × Int)) (a : (List Int)) => a) (enc' := fun (p : (List Int)) => ((eTup D.int) p, Own.no)) (LA.done (LA.pure (pnF 2 h4055 rfl) (LA.comp (enc := fun (p : (Int × Int)) => ((eP2 D.int D.int) p, Own.no)) (sp := fun _ => [some ((eDit kII D.int) a0, Own.no), some (D.int a1, Own.no), some ((eTup D.int) s4053.1, Own.no), some ((eOpt (eP2 D.int D.int)) s4053.2, Own.no)]) (LK.some (e := (eP2 D.int D.int)) (pnF 3 h4055 rfl) h4055) fun p4070 ρ h4071 => (LA.comp (enc := fun (p : Int) => (D.int p, Own.no)) (sp := fun _ => [some ((eDit kII D.int) a0, Own.no), some (D.int a1, Own.no), some ((eTup D.int) s4053.1, Own.no), some ((eOpt (eP2 D.int D.int)) s4053.2, Own.no)]) (LK.pure (pnF 1 h4071 rfl) (LK.bind (enc := fun (p : Int) => (D.int p, Own.no)) (sp := fun _ => [some ((eDit kII D.int) a0, Own.no), some (D.int a1, Own.no), some ((eTup D.int) s4053.1, Own.no), some ((eOpt (eP2 D.int D.int)) s4053.2, Own.no)]) (LK.pure (pnF 0 h4071 rfl) (LK.bind (enc := fun (p : (Int × Int)) => ((eP2 D.int D.int) p, Own.no)) (sp := fun _ => [some ((eDit kII D.int) a0, Own.no), some (D.int a1, Own.no), some ((eTup D.int) s4053.1, Own.no), some ((eOpt (eP2 D.int D.int)) s4053.2, Own.no)]) (LK.some (e := (eP2 D.int D.int)) (pnF 3 h4071 rfl) h4071) fun p4074 ρ h4075 => (LK.po (po_dit (e := D.int) (o := Own.no) (a0) (p4074)) h4075))) fun p4076 ρ h4077 => (LK.of rfl h4077))) fun p4078 ρ h4079 => (LA.nil h4079))))) (fun (b : ((Int × Int) × Int)) => lk_put_together s4053.1 b.1 b.2) (fun b ρ hb => trivial) (fun _ _ => rfl) (fun _ _ => rfl))) fun p4084 ρ h4085 => (LS.last (LS.set (enc := fun (p : (Option (Int × Int))) => ((eOpt (eP2 D.int D.int)) p, Own.no)) (sp := fun _ => [some ((eDit kII D.int) a0, Own.no), some (D.int a1, Own.no), some ((eTup D.int) p4084, Own.no), some ((eOpt (eP2 D.int D.int)) s4053.2, Own.no)]) (LK.frz (e := fun p => (eOpt (eP2 D.int D.int)) p) (o := fun _ => Own.no) (LK.callB (pCons (pnF 0 h4085 rfl) (pCons (pnF 2 h4085 rfl) pNil)) h4085 trivial (lk_lowest_pair a0 p4084))) fun p4086 ρ h4087 => (LS.nx (a := (p4084, p4086)) (h4087.weak (.keep (.keep (.keep (.keep Le.nil))))))))))) fun s4088 ρ h4089 => (LS.retp (a := s4088.1) (pnF 2 h4089 rfl) trivial)))
theorem lk_Joins_is_proper (a0 : O_Joins) (a1 : (Int × Int)) : LF (r_Joins_is_proper [(e_Joins a0, Own.no), ((eP2 D.int D.int) a1, Own.no)]) (t_Joins_is_proper a0 a1) (fun r => (D.bl r, Own.no)) :=
  LF.run0 (s := [some (e_Joins a0, Own.no), some ((eP2 D.int D.int) a1, Own.no), none, none, none, none, none, none]) (fun _ => rfl) rfl fun h0 => (LS.unp h0 (pnF 1 h0 rfl) (fun ρ h => ⟨_, rfl, ((h.set 5 _).set 6 _)⟩) fun ρ h4146 => (LS.set (enc := fun p => (D.int p, Own.no)) (sp := fun _ => [some (e_Joins a0, Own.no), some ((eP2 D.int D.int) a1, Own.no), none, none, none, some (D.int a1.1, Own.no), some (D.int a1.2, Own.no), none]) (LK.of (p2 (pCall (pCons (pFld (pnF 0 h4146 rfl) (fld_Joins_texts _)) pNil) (len_L (e := D.str) _)) rfl rfl) h4146) fun v4148 ρ h4147 => (LS.if_seq (LS.if_ (enc := id) (sp := fun _ => [some (e_Joins a0, Own.no), some ((eP2 D.int D.int) a1, Own.no), some (D.int v4148, Own.no), none, none, some (D.int a1.1, Own.no), some (D.int a1.2, Own.no), none]) (LK.orT (LK.map (LK.notT (b := fun p => p) (LK.tru (e := fun p => D.bl p) (b := fun p => p) (o := fun _ => Own.no) (LK.callB (pCons (pnF 5 h4147 rfl) (pCons rfl (pCons (pnF 2 h4147 rfl) pNil))) h4147 trivial (lk_is_between a1.1 (0 : Int) v4148)) (fun _ => rfl))) fun _ _ _ hp => hp) fun ρ h4149 => (LK.map (LK.notT (b := fun p => p) (LK.tru (e := fun p => D.bl p) (b := fun p => p) (o := fun _ => Own.no) (LK.callB (pCons (pnF 6 h4149 rfl) (pCons rfl (pCons (pnF 2 h4149 rfl) pNil))) h4149 trivial (lk_is_between a1.2 (0 : Int) v4148)) (fun _ => rfl))) fun _ _ _ hp => hp)) (fun p4150 ρ h4151 _ => (LS.ret_seq (LS.retp (a := false) rfl trivial))) (fun p4150 ρ h4151 _ => (LS.pass (LS.set (enc := fun (p : Str) => (D.str p, Own.no)) (sp := fun _ => [some (e_Joins a0, Own.no), some ((eP2 D.int D.int) a1, Own.no), some (D.int v4148, Own.no), none, none, some (D.int a1.1, Own.no), some (D.int a1.2, Own.no), none]) (LK.frz (e := fun p => D.str p) (o := fun _ => Own.no) (LK.bind (enc := fun (p : Str) => (D.str p, Own.no)) (sp := fun _ => [some (e_Joins a0, Own.no), some ((eP2 D.int D.int) a1, Own.no), some (D.int v4148, Own.no), none, none, some (D.int a1.1, Own.no), some (D.int a1.2, Own.no), none]) (LK.pure (pFld (pnF 0 h4151 rfl) (fld_Joins_texts _)) (LK.pure (pnF 5 h4151 rfl) (LK.po (po_ixL (e := D.str) (o := Own.no) (a0.texts) (a1.1)) h4151))) fun p4152 ρ h4153 => (LK.bind (enc := fun (p : Str) => (D.str p, Own.no)) (sp := fun _ => [some (e_Joins a0, Own.no), some ((eP2 D.int D.int) a1, Own.no), some (D.int v4148, Own.no), none, none, some (D.int a1.1, Own.no), some (D.int a1.2, Own.no), none]) (LK.pure (pFld (pnF 0 h4153 rfl) (fld_Joins_texts _)) (LK.pure (pnF 6 h4153 rfl) (LK.po (po_ixL (e := D.str) (o := Own.no) (a0.texts) (a1.2)) h4153))) fun p4154 ρ h4155 => (LK.po (po_addS (p4152) (p4154)) h4155)))) fun p4156 ρ h4157 => (LS.if_seq (LS.if_ (enc := fun (p : Bool) => p) (sp := fun _ => [some (e_Joins a0, Own.no), some ((eP2 D.int D.int) a1, Own.no), some (D.int v4148, Own.no), some (D.str p4156, Own.no), none, some (D.int a1.1, Own.no), some (D.int a1.2, Own.no), none]) (LK.bool (b := fun p => p) (o := fun _ => Own.no) (LK.bind (enc := fun (p : Int) => (D.int p, Own.no)) (sp := fun _ => [some (e_Joins a0, Own.no), some ((eP2 D.int D.int) a1, Own.no), some (D.int v4148, Own.no), some (D.str p4156, Own.no), none, some (D.int a1.1, Own.no), some (D.int a1.2, Own.no), none]) (LK.pure (pCons (pnF 3 h4157 rfl) pNil) (LK.po (po_lenS _) h4157)) fun p4158 ρ h4159 => (LK.pure rfl (LK.of rfl h4159)))) (fun p4160 ρ h4161 _ => (LS.ret_seq (LS.retp (a := false) rfl trivial))) (fun p4160 ρ h4161 _ => (LS.pass (LS.set (enc := fun (p : (List Int)) => ((eTup D.int) p, Own.no)) (sp := fun _ => [some (e_Joins a0, Own.no), some ((eP2 D.int D.int) a1, Own.no), some (D.int v4148, Own.no), some (D.str p4156, Own.no), none, some (D.int a1.1, Own.no), some (D.int a1.2, Own.no), none]) (LK.bind (enc := fun (q : (List Int)) => [((eLst D.int) q, Own.lst Own.no)]) (sp := fun _ => [some (e_Joins a0, Own.no), some ((eP2 D.int D.int) a1, Own.no), some (D.int v4148, Own.no), some (D.str p4156, Own.no), none, some (D.int a1.1, Own.no), some (D.int a1.2, Own.no), none]) (LA.done (LA.comp (enc := fun (p : (List Int)) => ((eLst D.int) p, Own.lst Own.no)) (sp := fun _ => [some (e_Joins a0, Own.no), some ((eP2 D.int D.int) a1, Own.no), some (D.int v4148, Own.no), some (D.str p4156, Own.no), none, some (D.int a1.1, Own.no), some (D.int a1.2, Own.no), none]) (LK.lc1 (vs := [7]) (encx := D.str) (e := D.int) (pItems (pnF 3 h4161 rfl) rfl) h4161 rfl (fun x4164 ρ h4165 => ⟨_, rfl, (h4165.set 7 _)⟩) (fun x4164 ρ h4165 => (LK.of (enc := id) rfl h4165)) (fun x4164 ρ h4165 => (LK.pure (pFld (pnF 0 h4165 rfl) (fld_Joins_numbers _)) (LK.pure (pnF 7 h4165 rfl) (LK.po (po_dicS (e := D.int) (o := Own.no) (a0.numbers) (x4164)) h4165)))) (fun _ => rfl) rfl rfl (wipe_hv rfl)) fun p4166 ρ h4167 => (LA.nil h4167))) fun p4168 ρ h4169 => (LK.of (tuple_L (e := D.int) (o := Own.lst Own.no) _) h4169)) fun p4170 ρ h4171 => (LS.ret (enc := fun (p : Bool) => (D.bl p, Own.no)) (sp := fun _ => [some (e_Joins a0, Own.no), some ((eP2 D.int D.int) a1, Own.no), some (D.int v4148, Own.no), some (D.str p4156, Own.no), some ((eTup D.int) p4170, Own.no), some (D.int a1.1, Own.no), some (D.int a1.2, Own.no), none]) (k := fun p => p) (LK.bind (enc := fun (p : (List Int)) => ((eTup D.int) p, Own.no)) (sp := fun _ => [some (e_Joins a0, Own.no), some ((eP2 D.int D.int) a1, Own.no), some (D.int v4148, Own.no), some (D.str p4156, Own.no), some ((eTup D.int) p4170, Own.no), some (D.int a1.1, Own.no), some (D.int a1.2, Own.no), none]) (LK.callBc (encs := fun (q : Int) => [((eDit kII D.int) a0.ranks, Own.no), (D.int q, Own.no), ((eTup D.int) p4170, Own.no)]) (sp := fun _ => [some (e_Joins a0, Own.no), some ((eP2 D.int D.int) a1, Own.no), some (D.int v4148, Own.no), some (D.str p4156, Own.no), some ((eTup D.int) p4170, Own.no), some (D.int a1.1, Own.no), some (D.int a1.2, Own.no), none]) (sp' := fun _ => [some (e_Joins a0, Own.no), some ((eP2 D.int D.int) a1, Own.no), some (D.int v4148, Own.no), some (D.str p4156, Own.no), some ((eTup D.int) p4170, Own.no), some (D.int a1.1, Own.no), some (D.int a1.2, Own.no), none]) (T := fun (b : Int) (a : (List Int)) => a) (enc' := fun (p : (List Int)) => ((eTup D.int) p, Own.no)) (LA.done (LA.pure (pFld (pnF 0 h4171 rfl) (fld_Joins_ranks _)) (LA.comp (enc := fun (p : Int) => (D.int p, Own.no)) (sp := fun _ => [some (e_Joins a0, Own.no), some ((eP2 D.int D.int) a1, Own.no), some (D.int v4148, Own.no), some (D.str p4156, Own.no), some ((eTup D.int) p4170, Own.no), some (D.int a1.1, Own.no), some (D.int a1.2, Own.no), none]) (LK.pure (pCons (pFld (pnF 0 h4171 rfl) (fld_Joins_alphabet _)) pNil) (LK.po (po_lenS _) h4171)) fun p4178 ρ h4179 => (LA.pure (pnF 4 h4179 rfl) (LA.nil h4179))))) (fun (b : Int) => lk_cut_row a0.ranks b p4170) (fun b ρ hb => trivial) (fun _ _ => rfl) (fun _ _ => rfl)) fun p4184 ρ h4185 => (LK.pure (pnF 1 h4185 rfl) (LK.of (pu_eq (e := (eTup D.int)) (eqe_tupT eqe_int) (p4184) ([a1.1, a1.2])) h4185))) (fun _ => rfl) (fun _ _ _ => trivial))))))))))))))
theorem lk_Joins_take (a0 : O_Joins) (a1 : (Int × Int)) : LFm 1 (r_Joins_take [(e_Joins a0, own_Joins), ((eP2 D.int D.int) a1, Own.no)]) (t_Joins_take a0 a1) (fun (r : (Unit × O_Joins)) => (eNon r.1, Own.no)) (fun (r : (Unit × O_Joins)) => [(e_Joins r.2, own_Joins)]) :=
  LFm.runN0 (mi := [0]) (sn := fun (r : (Unit × O_Joins)) => [some (e_Joins r.2, own_Joins), none, none, none]) (s := [some (e_Joins a0, own_Joins), some ((eP2 D.int D.int) a1, Own.no), none, none]) (fun _ => rfl) (fun _ => rfl) rfl fun h0 => (LS.set (enc := fun p => (D.int p, Own.no)) (sp := fun _ => [some (e_Joins a0, own_Joins), some ((eP2 D.int D.int) a1, Own.no), none, none]) (LK.of (pCall (pCons (pFld (pn 0 h0 rfl) (fld_Joins_pairsO _)) pNil) (len_T (e := (eP2 D.int D.int)) _)) h0) fun v4259 ρ h4258 => (LS.if_seq (LS.if_ (enc := fun (p : Bool) => !p) (sp := fun _ => [some (e_Joins a0, own_Joins), some ((eP2 D.int D.int) a1, Own.no), some (D.int v4259, Own.no), none]) (LK.notT (b := fun p => p) (LK.tru (e := fun p => D.bl p) (b := fun p => p) (o := fun _ => Own.no) (LK.methB (pn 0 h4258 rfl) (ob_Joins_is_properO _) (pCons (pnF 1 h4258 rfl) pNil) h4258 (em h4258 rfl) (lk_Joins_is_proper a0 a1)) (fun _ => rfl))) (fun p4260 ρ h4261 _ => (LS.raise_seq (LS.raise (h := mNx) (pCons (pnF 2 h4261 rfl) pNil) ⟨rfl, by decide⟩ rfl (by simp [indF, show ∀ a, indD (D.int a) Own.no = true from (fun _ => rfl)]) (em h4261 rfl)))) (fun p4260 ρ h4261 _ => (LS.pass (LS.set (enc := fun (p : Str) => (D.str p, Own.no)) (sp := fun _ => [some (e_Joins a0, own_Joins), some ((eP2 D.int D.int) a1, Own.no), some (D.int v4259, Own.no), none]) (LK.frz (e := fun p => D.str p) (o := fun _ => Own.no) (LK.bind (enc := fun (p : Str) => (D.str p, Own.no)) (sp := fun _ => [some (e_Joins a0, own_Joins), some ((eP2 D.int D.int) a1, Own.no), some (D.int v4259, Own.no), none]) (LK.pure (pFld (pn 0 h4261 rfl) (fld_Joins_textsO _)) (LK.pure (p2 (pnF 1 h4261 rfl) rfl rfl) (LK.po (po_ixL (e := D.str) (o := Own.lst Own.no) (a0.texts) (a1.1)) h4261))) fun p4262 ρ h4263 => (LK.bind (enc := fun (p : Str) => (D.str p, Own.no)) (sp := fun _ => [some (e_Joins a0, own_Joins), some ((eP2 D.int D.int) a1, Own.no), some (D.int v4259, Own.no), none]) (LK.pure (pFld (pn 0 h4263 rfl) (fld_Joins_textsO _)) (LK.pure (p2 (pnF 1 h4263 rfl) rfl rfl) (LK.po (po_ixL (e := D.str) (o := Own.lst Own.no) (a0.texts) (a1.2)) h4263))) fun p4264 ρ h4265 => (LK.po (po_addS (p4262) (p4264)) h4265)))) fun p4266 ρ h4267 => (LS.fsetc' (enc := fun (p : (List (Int × Int))) => ((eTup (eP2 D.int D.int)) p, Own.no)) (sp := fun _ => [some (e_Joins a0, own_Joins), some ((eP2 D.int D.int) a1, Own.no), some (D.int v4259, Own.no), some (D.str p4266, Own.no)]) (z := fun _ => a0) (e := e_Joins) (o := own_Joins) (LK.pure (pFld (pn 0 h4267 rfl) (fld_Joins_pairsO _)) (LK.pure (pTup (pCons (pnF 1 h4267 rfl) pNil) ⟨rfl, small rfl⟩) (LK.po (po_addT (e := (eP2 D.int D.int)) (a0.pairs) ([a1])) h4267))) (fun _ => rfl) (fun _ => fs_Joins_pairs _ _) fun p4269 ρ h4268 => (LS.lett (s := fun (v : O_Joins) => [some (e_Joins v, own_Joins), some ((eP2 D.int D.int) a1, Own.no), some (D.int v4259, Own.no), some (D.str p4266, Own.no)]) h4268 fun o4271 h4272 => (LS.put' (encD := (eDic kS D.int)) (s1 := fun p => List.set _ 0 (some (e_Joins { o4271 with numbers := p }, own_Joins))) h4272 (pCall (pCons (pFld (pn 0 h4272 rfl) (fld_Joins_textsO _)) pNil) (len_L (e := D.str) _)) (pnF 3 h4272 rfl) (gp_Joins_numbers _ rfl) (dputT_ne _ _ _) (put_dicS (e := D.int) _ _ _) (fun _ => sp_Joins_numbers _ _ rfl) fun p4273 ρ h4274 => (LS.lett (s := fun (v : O_Joins) => [some (e_Joins v, own_Joins), some ((eP2 D.int D.int) a1, Own.no), some (D.int v4259, Own.no), some (D.str p4266, Own.no)]) h4274 fun o4275 h4276 => (LS.drop (enc := fun _ => (D.non, Own.no)) (sp := fun (p : (List Str)) => [some (e_Joins { o4275 with texts := p }, own_Joins), some ((eP2 D.int D.int) a1, Own.no), some (D.int v4259, Own.no), some (D.str p4266, Own.no)]) (LK.append' (e := D.str) (ys := o4275.texts) (y := p4266) (sp := fun (zs : (List Str)) => List.set [some (e_Joins o4275, own_Joins), some ((eP2 D.int D.int) a1, Own.no), some (D.int v4259, Own.no), some (D.str p4266, Own.no)] 0 (some (e_Joins { o4275 with texts := zs }, own_Joins))) h4276 (pCons (pnF 3 h4276 rfl) pNil) rfl (gp_Joins_texts _ rfl) rfl (fun _ => sp_Joins_texts _ _ rfl)) fun p4277 ρ h4278 => (LS.lett (s := fun (v : O_Joins) => [some (e_Joins v, own_Joins), some ((eP2 D.int D.int) a1, Own.no), some (D.int v4259, Own.no), some (D.str p4266, Own.no)]) h4278 fun o4279 h4280 => (LS.put' (encD := (eDit kII D.int)) (s1 := fun p => List.set _ 0 (some (e_Joins { o4279 with ranks := p }, own_Joins))) h4280 (pnF 2 h4280 rfl) (pnF 1 h4280 rfl) (gp_Joins_ranks _ rfl) (dputT_ne _ _ _) (put_dit (e := D.int) _ _ _) (fun _ => sp_Joins_ranks _ _ rfl) fun p4281 ρ h4282 => (LS.lett (s := fun (v : O_Joins) => [some (e_Joins v, own_Joins), some ((eP2 D.int D.int) a1, Own.no), some (D.int v4259, Own.no), some (D.str p4266, Own.no)]) h4282 fun o4283 h4284 => (LS.last (LS.fsetc' (enc := fun (p : Int) => (D.int p, Own.no)) (sp := fun _ => [some (e_Joins o4283, own_Joins), some ((eP2 D.int D.int) a1, Own.no), some (D.int v4259, Own.no), some (D.str p4266, Own.no)]) (z := fun _ => o4283) (e := e_Joins) (o := own_Joins) (LK.bind (enc := fun (q : Int) => [(D.int o4283.longest, Own.no), (D.int q, Own.no)]) (sp := fun _ => [some (e_Joins o4283, own_Joins), some ((eP2 D.int D.int) a1, Own.no), some (D.int v4259, Own.no), some (D.str p4266, Own.no)]) (LA.done (LA.pure (pFld (pn 0 h4284 rfl) (fld_Joins_longestO _)) (LA.comp (enc := fun (p : Int) => (D.int p, Own.no)) (sp := fun _ => [some (e_Joins o4283, own_Joins), some ((eP2 D.int D.int) a1, Own.no), some (D.int v4259, Own.no), some (D.str p4266, Own.no)]) (LK.pure (pCons (pnF 3 h4284 rfl) pNil) (LK.po (po_lenS _) h4284)) fun p4285 ρ h4286 => (LA.nil h4286)))) fun p4287 ρ h4288 => (LK.of rfl h4288)) (fun _ => rfl) (fun _ => fs_Joins_longest _ _) fun p4290 ρ h4289 => (LS.lett (s := fun (v : O_Joins) => [some (e_Joins v, own_Joins), some ((eP2 D.int D.int) a1, Own.no), some (D.int v4259, Own.no), some (D.str p4266, Own.no)]) h4289 fun o4292 h4293 => (LS.nx (a := ((), o4292)) (h4293.weak (.keep (.skip (.skip (.skip Le.nil)))))))))))))))))))))))
theorem lk_Joins_init (a1 : Str) (a2 : (Bool × List (Int × Int))) : LFm 1 (r_Joins_init [(.obj "Joins" [], .obj []), (D.str a1, Own.no), ((eSq (eP2 D.int D.int)) a2, Own.no)]) (t_Joins_init a1 a2) (fun _ => (.non, Own.no)) (fun a => [(e_Joins a, own_Joins)]) :=
  LFm.init (LFm.runN0 (mi := [0]) (sn := fun (r : Unit × O_Joins) => [some (e_Joins r.2, own_Joins), none, none, none, none, none]) (ms := fun (r : Unit × O_Joins) => [(e_Joins r.2, own_Joins)]) (s := [some (.obj "Joins" [], .obj []), some (D.str a1, Own.no), some ((eSq (eP2 D.int D.int)) a2, Own.no), none, none, none]) (fun _ => rfl) (fun _ => rfl) rfl fun h0 => (LS.fsetc (c := "Joins") (enc := fun (p : Str) => (D.str p, Own.no)) (sp := fun _ => [some (.obj "Joins" [], .obj []), some (D.str a1, Own.no), some ((eSq (eP2 D.int D.int)) a2, Own.no), none, none, none]) (fds := fun _ => []) (fo := fun _ => []) (fds' := fun p3834 => [("alphabet", D.str p3834)]) (fo' := fun p3834 => []) (LK.callB (pCons (pnF 1 h0 rfl) pNil) h0 (em h0 rfl) (lk_checked_alphabet a1)) (fun _ => rfl) (fun _ => (by refine fset_ok ?_ ?_ ?_ <;> simp [hasF, tab, List.lookup])) (fun _ => (by simp [fput])) (fun _ => (by simp [oput, ownF, List.lookup, sameOwn])) fun p3834 ρ h3833 => (LS.fset (fds' := [("alphabet", D.str p3834), ("pairs", (eTup (eP2 D.int D.int)) [])]) (fo' := []) h3833 (pTup pNil ⟨rfl, small rfl⟩) rfl (by refine fset_ok ?_ ?_ ?_ <;> simp [hasF, tab, List.lookup]) (by simp [fput]) (by simp [oput, ownF, List.lookup, sameOwn]) fun ρ h3836 => (LS.fsetc (c := "Joins") (enc := fun (p : (List Str)) => ((eLst D.str) p, Own.lst Own.no)) (sp := fun _ => [some (.obj "Joins" [("alphabet", D.str p3834), ("pairs", (eTup (eP2 D.int D.int)) [])], .obj []), some (D.str a1, Own.no), some ((eSq (eP2 D.int D.int)) a2, Own.no), none, none, none]) (fds := fun _ => [("alphabet", D.str p3834), ("pairs", (eTup (eP2 D.int D.int)) [])]) (fo := fun _ => []) (fds' := fun p3838 => [("alphabet", D.str p3834), ("pairs", (eTup (eP2 D.int D.int)) []), ("texts", (eLst D.str) p3838)]) (fo' := fun p3838 => [("texts", Own.lst Own.no)]) (LK.pure (pCons (pnF 1 h3836 rfl) pNil) (LK.po (po_listS _) h3836)) (fun _ => rfl) (fun _ => (by refine fset_ok ?_ ?_ ?_ <;> simp [hasF, tab, List.lookup])) (fun _ => (by simp [fput])) (fun _ => (by simp [oput, ownF, List.lookup, sameOwn])) fun p3838 ρ h3837 => (LS.fset (fds' := [("alphabet", D.str p3834), ("pairs", (eTup (eP2 D.int D.int)) []), ("texts", (eLst D.str) p3838), ("ranks", (eDit kII D.int) [])]) (fo' := [("ranks", Own.lst Own.no), ("texts", Own.lst Own.no)]) h3837 rfl rfl (by refine fset_ok ?_ ?_ ?_ <;> simp [hasF, tab, List.lookup]) (by simp [fput]) (by simp [oput, ownF, List.lookup, sameOwn]) fun ρ h3840 => (LS.fsetc (c := "Joins") (enc := fun (p : (List (Str × Int))) => ((eDic kS D.int) p, Own.lst Own.no)) (sp := fun _ => [some (.obj "Joins" [("alphabet", D.str p3834), ("pairs", (eTup (eP2 D.int D.int)) []), ("texts", (eLst D.str) p3838), ("ranks", (eDit kII D.int) [])], .obj [("ranks", Own.lst Own.no), ("texts", Own.lst Own.no)]), some (D.str a1, Own.no), some ((eSq (eP2 D.int D.int)) a2, Own.no), none, none, none]) (fds := fun _ => [("alphabet", D.str p3834), ("pairs", (eTup (eP2 D.int D.int)) []), ("texts", (eLst D.str) p3838), ("ranks", (eDit kII D.int) [])]) (fo := fun _ => [("ranks", Own.lst Own.no), ("texts", Own.lst Own.no)]) (fds' := fun p3844 => [("alphabet", D.str p3834), ("pairs", (eTup (eP2 D.int D.int)) []), ("texts", (eLst D.str) p3838), ("ranks", (eDit kII D.int) []), ("numbers", (eDic kS D.int) p3844)]) (fo' := fun p3844 => [("numbers", Own.lst Own.no), ("ranks", Own.lst Own.no), ("texts", Own.lst Own.no)]) (LK.dc (vs := [4, 5]) (encx := (eP2 D.int D.str)) (e := D.int) (ek := kS) (ek' := D.str) (k := fun (x3841 : (Int × Str)) => x3841.2) (v := fun (x3841 : (Int × Str)) => x3841.1) kS_inj (fun _ => rfl) (enum_S (pCons (pnF 1 h3840 rfl) pNil)) h3840 rfl (fun x3841 ρ h3842 => ⟨_, rfl, ((h3842.set 4 _).set 5 _)⟩) (fun x3841 ρ h3842 => rfl) (fun x3841 ρ h3842 => (pnF 5 h3842 rfl)) (fun x3841 ρ h3842 => (pnF 4 h3842 rfl)) (fun _ => rfl) rfl rfl (wipe_hv rfl)) (fun _ => rfl) (fun _ => (by refine fset_ok ?_ ?_ ?_ <;> simp [hasF, tab, List.lookup])) (fun _ => (by simp [fput])) (fun _ => (by simp [oput, ownF, List.lookup, sameOwn])) fun p3844 ρ h3843 => (LS.fset (fds' := [("alphabet", D.str p3834), ("pairs", (eTup (eP2 D.int D.int)) []), ("texts", (eLst D.str) p3838), ("ranks", (eDit kII D.int) []), ("numbers", (eDic kS D.int) p3844), ("longest", D.int (1 : Int))]) (fo' := [("numbers", Own.lst Own.no), ("ranks", Own.lst Own.no), ("texts", Own.lst Own.no)]) h3843 rfl rfl (by refine fset_ok ?_ ?_ ?_ <;> simp [hasF, tab, List.lookup]) (by simp [fput]) (by simp [oput, ownF, List.lookup, sameOwn]) fun ρ h3846 => (LS.last (LS.seq (sn := fun (s : O_Joins) => [some (e_Joins s, own_Joins), some (D.str a1, Own.no), some ((eSq (eP2 D.int D.int)) a2, Own.no), none, none, none]) (LS.forp (encx := (eP2 D.int D.int)) (sh := fun (s3847 : O_Joins) => [some (e_Joins s3847, own_Joins), some (D.str a1, Own.no), some ((eSq (eP2 D.int D.int)) a2, Own.no), none, none, none]) (sb := fun (x3848 : (Int × Int)) (s3847 : O_Joins) => [some (e_Joins s3847, own_Joins), some (D.str a1, Own.no), some ((eSq (eP2 D.int D.int)) a2, Own.no), some ((eP2 D.int D.int) x3848, Own.no), none, none]) (step := t_Joins_init_l0) (a := ({ alphabet := p3834, pairs := [], texts := p3838, ranks := [], numbers := p3844, longest := (1 : Int) } : O_Joins)) (pItems (pnF 2 h3846 rfl) (items_sq (e := (eP2 D.int D.int)) _)) (h3846.weak (.keep (.keep (.keep (.skip (.skip (.skip Le.nil))))))) (fun x3848 s3847 ρ h => ⟨_, rfl, (h.set 3 _)⟩) (fun x3848 s3847 ρ h3849 => (LS.last (LS.drop (enc := fun (p : (Unit × O_Joins)) => (eNon p.1, Own.no)) (sp := fun (p : (Unit × O_Joins)) => [some (e_Joins p.2, own_Joins), some (D.str a1, Own.no), some ((eSq (eP2 D.int D.int)) a2, Own.no), some ((eP2 D.int D.int) x3848, Own.no), none, none]) (LK.methL (i := 0) (sl := [none]) (s' := [none, some (D.str a1, Own.no), some ((eSq (eP2 D.int D.int)) a2, Own.no), some ((eP2 D.int D.int) x3848, Own.no), none, none]) h3849 rfl (ob_Joins_takeO _) (pCons (pCall (pCons (pnF 3 h3849 rfl) pNil) rfl) pNil)  rfl (lk_Joins_take s3847 x3848) (fun ρ h m hm => (by match m, hm with | [x], _ => exact em (mi := [0]) (h.set 0 x) rfl))) fun p3850 ρ h3851 => (LS.nx (a := p3850.2) (h3851.weak (.keep (.keep (.keep (.skip (.skip (.skip Le.nil)))))))))))) fun s3852 ρ h3853 => (LS.nx (a := ((), s3852)) (h3853.weak (.keep (.skip (.skip (.skip (.skip (.skip Le.nil)))))))))))))))))
theorem lk_law_ask (a0 : Str) (a1 : (Bool × List (Int × Int))) : LF (r_law_ask [(D.str a0, Own.no), ((eSq (eP2 D.int D.int)) a1, Own.no)]) (t_law_ask a0 a1) (fun r => ((eP2 D.str eD) r, Own.no)) :=
  LF.runG0 (s := [some (D.str a0, Own.no), some ((eSq (eP2 D.int D.int)) a1, Own.no), none, none]) rfl fun h0 => (LS.setp h0 (pLst pNil ⟨rfl, small rfl⟩) fun ρ h3854 => (LS.seq (sn := fun (s : (List (Str × D))) => [some (D.str a0, Own.no), some ((eSq (eP2 D.int D.int)) a1, Own.no), some ((eLst (eP2 D.str eD)) s, Own.lst Own.no), none]) (LS.try_ (sx := [some (D.str a0, Own.no), some ((eSq (eP2 D.int D.int)) a1, Own.no), some ((eLst (eP2 D.str eD)) [], Own.lst Own.no), none]) (sn := fun (s : (List (Str × D))) => [some (D.str a0, Own.no), some ((eSq (eP2 D.int D.int)) a1, Own.no), some ((eLst (eP2 D.str eD)) s, Own.lst Own.no), none]) (LS.last (LS.drop (enc := fun _ => (D.non, Own.no)) (sp := fun (p : (List (Str × D))) => [some (D.str a0, Own.no), some ((eSq (eP2 D.int D.int)) a1, Own.no), some ((eLst (eP2 D.str eD)) p, Own.lst Own.no), none]) (LK.appendc (encs := fun (q : (Str × (List (Int × Int)))) => [((eP2 D.str (eTup (eP2 D.int D.int))) q, Own.no)]) (sp := fun _ => [some (D.str a0, Own.no), some ((eSq (eP2 D.int D.int)) a1, Own.no), some ((eLst (eP2 D.str eD)) [], Own.lst Own.no), none]) (sp' := fun p => [some (D.str a0, Own.no), some ((eSq (eP2 D.int D.int)) a1, Own.no), some ((eLst (eP2 D.str eD)) p, Own.lst Own.no), none]) (ys := fun b => []) (y := fun b => (b.1, ((eTup (eP2 D.int D.int)) b.2))) (e := (eP2 D.str eD)) (c := Own.no) (x0 := (.non, Own.no)) (T := fun b zs => zs) h3854 ⟨_, _, rfl⟩ (LA.done (LA.comp (enc := fun (p : (Str × (List (Int × Int)))) => ((eP2 D.str (eTup (eP2 D.int D.int))) p, Own.no)) (sp := fun _ => [some (D.str a0, Own.no), some ((eSq (eP2 D.int D.int)) a1, Own.no), some ((eLst (eP2 D.str eD)) [], Own.lst Own.no), none]) (LK.bind (enc := fun (q : (List (Int × Int))) => [(D.str (Str.ofString ""), Own.no), ((eTup (eP2 D.int D.int)) q, Own.no)]) (sp := fun _ => [some (D.str a0, Own.no), some ((eSq (eP2 D.int D.int)) a1, Own.no), some ((eLst (eP2 D.str eD)) [], Own.lst Own.no), none]) (LA.done (LA.pure rfl (LA.comp (enc := fun (p : (List (Int × Int))) => ((eTup (eP2 D.int D.int)) p, Own.no)) (sp := fun _ => [some (D.str a0, Own.no), some ((eSq (eP2 D.int D.int)) a1, Own.no), some ((eLst (eP2 D.str eD)) [], Own.lst Own.no), none]) (LK.chk (LK.bind (enc := fun (p : O_Joins) => (e_Joins p, own_Joins)) (sp := fun _ => [some (D.str a0, Own.no), some ((eSq (eP2 D.int D.int)) a1, Own.no), some ((eLst (eP2 D.str eD)) [], Own.lst Own.no), none]) (LK.make (pCons (pnF 0 h3854 rfl) (pCons (pnF 1 h3854 rfl) pNil)) h3854 rfl (by simp) ⟨h3854.weak (.keep (.keep (.keep (.skip Le.nil)))), trivial⟩ (lk_Joins_init a0 a1)) fun p3865 ρ h3866 => LK.of (fld_Joins_pairsO _) h3866)) fun p3867 ρ h3868 => (LA.nil h3868)))) fun p3869 ρ h3870 => (LK.of (by first | rfl | exact if_pos ⟨rfl, small rfl⟩) h3870)) fun p3871 ρ h3872 => (LA.nil h3872))) (fun b => rfl) (fun b => rfl) rfl (fun _ _ => rfl)) fun p3875 ρ h3876 => (LS.nx (a := p3875) (h3876.weak (.keep (.keep (.keep (.skip Le.nil)))))))) (Nat.le_of_ble_eq_true rfl) (fun c0 fs0 ρ h38770 hi0 hx0 => have h3877 := (h38770.weak (.keep (.keep (.keep (.skip Le.nil))))); (LS.seq (sn := fun (s : (List (Str × D))) => [some (D.str a0, Own.no), some ((eSq (eP2 D.int D.int)) a1, Own.no), some ((eLst (eP2 D.str eD)) s, Own.lst Own.no), none]) (LS.if_ (enc := fun (p : Bool) => p) (sp := fun _ => [some (D.str a0, Own.no), some ((eSq (eP2 D.int D.int)) a1, Own.no), some ((eLst (eP2 D.str eD)) [], Own.lst Own.no), none]) (LK.tru (e := fun p => D.bl p) (b := fun p => p) (o := fun _ => Own.no) (LK.isX rfl h3877) (fun _ => rfl)) (fun p3878 ρ h3879 _ => (LS.last (LS.drop (enc := fun _ => (D.non, Own.no)) (sp := fun (p : (List (Str × D))) => [some (D.str a0, Own.no), some ((eSq (eP2 D.int D.int)) a1, Own.no), some ((eLst (eP2 D.str eD)) p, Own.lst Own.no), none]) (LK.appendc (encs := fun (q : (Str × D)) => [((eP2 D.str eD) q, Own.no)]) (sp := fun _ => [some (D.str a0, Own.no), some ((eSq (eP2 D.int D.int)) a1, Own.no), some ((eLst (eP2 D.str eD)) [], Own.lst Own.no), none]) (sp' := fun p => [some (D.str a0, Own.no), some ((eSq (eP2 D.int D.int)) a1, Own.no), some ((eLst (eP2 D.str eD)) p, Own.lst Own.no), none]) (ys := fun b => []) (y := fun b => b) (e := (eP2 D.str eD)) (c := Own.no) (x0 := (.non, Own.no)) (T := fun b zs => zs) h3879 ⟨_, _, rfl⟩ (LA.done (LA.comp (enc := fun (p : (Str × D)) => ((eP2 D.str eD) p, Own.no)) (sp := fun _ => [some (D.str a0, Own.no), some ((eSq (eP2 D.int D.int)) a1, Own.no), some ((eLst (eP2 D.str eD)) [], Own.lst Own.no), none]) (LK.bind (enc := fun (q : D) => [(D.str (Str.ofString "InvalidAlphabet"), Own.no), (eD q, Own.no)]) (sp := fun _ => [some (D.str a0, Own.no), some ((eSq (eP2 D.int D.int)) a1, Own.no), some ((eLst (eP2 D.str eD)) [], Own.lst Own.no), none]) (LA.done (LA.pure rfl (LA.comp (enc := fun (p : D) => (eD p, Own.no)) (sp := fun _ => [some (D.str a0, Own.no), some ((eSq (eP2 D.int D.int)) a1, Own.no), some ((eLst (eP2 D.str eD)) [], Own.lst Own.no), none]) (LK.po (po_xf fs0 "alphabet") h3879) fun p3884 ρ h3885 => (LA.nil h3885)))) fun p3886 ρ h3887 => (LK.of (by first | rfl | exact if_pos ⟨rfl, small rfl⟩) h3887)) fun p3888 ρ h3889 => (LA.nil h3889))) (fun b => rfl) (fun b => rfl) rfl (fun _ _ => rfl)) fun p3892 ρ h3893 => (LS.nx (a := p3892) (h3893.weak (.keep (.keep (.keep (.skip Le.nil))))))))) (fun p3878 ρ h3879 _ => (LS.nx (a := []) (h3879.weak (.keep (.keep (.keep (.skip Le.nil)))))))) fun s3894 ρ h3895 => (LS.seq (sn := fun (s : (List (Str × D))) => [some (D.str a0, Own.no), some ((eSq (eP2 D.int D.int)) a1, Own.no), some ((eLst (eP2 D.str eD)) s, Own.lst Own.no), none]) (LS.if_ (enc := fun (p : Bool) => p) (sp := fun _ => [some (D.str a0, Own.no), some ((eSq (eP2 D.int D.int)) a1, Own.no), some ((eLst (eP2 D.str eD)) s3894, Own.lst Own.no), none]) (LK.tru (e := fun p => D.bl p) (b := fun p => p) (o := fun _ => Own.no) (LK.isX rfl h3895) (fun _ => rfl)) (fun p3896 ρ h3897 _ => (LS.last (LS.drop (enc := fun _ => (D.non, Own.no)) (sp := fun (p : (List (Str × D))) => [some (D.str a0, Own.no), some ((eSq (eP2 D.int D.int)) a1, Own.no), some ((eLst (eP2 D.str eD)) p, Own.lst Own.no), none]) (LK.appendc (encs := fun (q : (Str × D)) => [((eP2 D.str eD) q, Own.no)]) (sp := fun _ => [some (D.str a0, Own.no), some ((eSq (eP2 D.int D.int)) a1, Own.no), some ((eLst (eP2 D.str eD)) s3894, Own.lst Own.no), none]) (sp' := fun p => [some (D.str a0, Own.no), some ((eSq (eP2 D.int D.int)) a1, Own.no), some ((eLst (eP2 D.str eD)) p, Own.lst Own.no), none]) (ys := fun b => s3894) (y := fun b => b) (e := (eP2 D.str eD)) (c := Own.no) (x0 := (.non, Own.no)) (T := fun b zs => zs) h3897 ⟨_, _, rfl⟩ (LA.done (LA.comp (enc := fun (p : (Str × D)) => ((eP2 D.str eD) p, Own.no)) (sp := fun _ => [some (D.str a0, Own.no), some ((eSq (eP2 D.int D.int)) a1, Own.no), some ((eLst (eP2 D.str eD)) s3894, Own.lst Own.no), none]) (LK.bind (enc := fun (q : D) => [(D.str (Str.ofString "NotProper"), Own.no), (eD q, Own.no)]) (sp := fun _ => [some (D.str a0, Own.no), some ((eSq (eP2 D.int D.int)) a1, Own.no), some ((eLst (eP2 D.str eD)) s3894, Own.lst Own.no), none]) (LA.done (LA.pure rfl (LA.comp (enc := fun (p : D) => (eD p, Own.no)) (sp := fun _ => [some (D.str a0, Own.no), some ((eSq (eP2 D.int D.int)) a1, Own.no), some ((eLst (eP2 D.str eD)) s3894, Own.lst Own.no), none]) (LK.po (po_xf fs0 "rank") h3897) fun p3902 ρ h3903 => (LA.nil h3903)))) fun p3904 ρ h3905 => (LK.of (by first | rfl | exact if_pos ⟨rfl, small rfl⟩) h3905)) fun p3906 ρ h3907 => (LA.nil h3907))) (fun b => rfl) (fun b => rfl) rfl (fun _ _ => rfl)) fun p3910 ρ h3911 => (LS.nx (a := p3910) (h3911.weak (.keep (.keep (.keep (.skip Le.nil))))))))) (fun p3896 ρ h3897 _ => (LS.nx (a := s3894) (h3897.weak (.keep (.keep (.keep (.skip Le.nil)))))))) fun s3912 ρ h3913 => (LS.seq (sn := fun (s : (List (Str × D))) => [some (D.str a0, Own.no), some ((eSq (eP2 D.int D.int)) a1, Own.no), some ((eLst (eP2 D.str eD)) s, Own.lst Own.no), none]) (LS.if_ (enc := fun (p : Bool) => p) (sp := fun _ => [some (D.str a0, Own.no), some ((eSq (eP2 D.int D.int)) a1, Own.no), some ((eLst (eP2 D.str eD)) s3912, Own.lst Own.no), none]) (LK.tru (e := fun p => D.bl p) (b := fun p => p) (o := fun _ => Own.no) (LK.isX (pTup (pCons rfl (pCons rfl (pCons rfl (pCons rfl (pCons rfl (pCons rfl (pCons rfl pNil))))))) ⟨rfl, small rfl⟩) h3913) (fun _ => rfl)) (fun p3914 ρ h3915 _ => (LS.last (LS.drop (enc := fun _ => (D.non, Own.no)) (sp := fun (p : (List (Str × D))) => [some (D.str a0, Own.no), some ((eSq (eP2 D.int D.int)) a1, Own.no), some ((eLst (eP2 D.str eD)) p, Own.lst Own.no), none]) (LK.append (e := (eP2 D.str eD)) h3915 (pCons (pTup (pCons rfl (pCons rfl pNil)) ⟨rfl, small rfl⟩) pNil) rfl rfl rfl) fun p3916 ρ h3917 => (LS.nx (a := p3916) (h3917.weak (.keep (.keep (.keep (.skip Le.nil))))))))) (fun p3914 ρ h3915 _ => (LS.nx (a := s3912) (h3915.weak (.keep (.keep (.keep (.skip Le.nil)))))))) fun s3918 ρ h3919 => (LS.if_ (enc := fun (p : Bool) => !p) (sp := fun _ => [some (D.str a0, Own.no), some ((eSq (eP2 D.int D.int)) a1, Own.no), some ((eLst (eP2 D.str eD)) s3918, Own.lst Own.no), none]) (LK.notT (b := fun p => p) (LK.tru (e := fun p => D.bl p) (b := fun p => p) (o := fun _ => Own.no) (LK.isX rfl h3919) (fun _ => rfl))) (fun p3920 ρ h3921 _ => (LS.last (LS.drop (enc := fun _ => (D.non, Own.no)) (sp := fun (p : (List (Str × D))) => [some (D.str a0, Own.no), some ((eSq (eP2 D.int D.int)) a1, Own.no), some ((eLst (eP2 D.str eD)) p, Own.lst Own.no), none]) (LK.append (e := (eP2 D.str eD)) h3921 (pCons (pTup (pCons rfl (pCons rfl pNil)) ⟨rfl, small rfl⟩) pNil) rfl rfl rfl) fun p3922 ρ h3923 => (LS.nx (a := p3922) (h3923.weak (.keep (.keep (.keep (.skip Le.nil))))))))) (fun p3920 ρ h3921 _ => (LS.nx (a := s3918) (h3921.weak (.keep (.keep (.keep (.skip Le.nil)))))))))))) (fun _ => rfl) (fun a => nomatch a) (fun _ _ h => h)) fun s3924 ρ h3925 => (LS.if_seq (LS.ifp (pBool (p2 (pCall (pCons (pn 2 h3925 rfl) pNil) (len_L (e := (eP2 D.str eD)) _)) rfl rfl)) (fun _ => (LS.ret_seq (LS.ret (enc := fun (p : (Str × D)) => ((eP2 D.str eD) p, Own.no)) (sp := fun _ => [some (D.str a0, Own.no), some ((eSq (eP2 D.int D.int)) a1, Own.no), some ((eLst (eP2 D.str eD)) s3924, Own.lst Own.no), none]) (k := fun p => p) (LK.pure (pn 2 h3925 rfl) (LK.pure rfl (LK.po (po_ixL (e := (eP2 D.str eD)) (o := Own.lst Own.no) (s3924) ((0 : Int))) h3925))) (fun _ => rfl) (fun _ _ _ => trivial)))) (fun _ => (LS.pass (LS.retp (a := (((Str.ofString "other"), (Str.ofString "")).1, (D.str ((Str.ofString "other"), (Str.ofString "")).2))) (pTup (pCons rfl (pCons rfl pNil)) ⟨rfl, small rfl⟩) trivial)))))))
theorem lk_law_same (a0 : D) (a1 : D) : LF (r_law_same fuel [(a0, Own.no), (a1, Own.no)]) (t_law_same a0 a1) (fun b => (.bl b, Own.no)) := LF.asB _
theorem lk_law (a0 : (List Int)) : LF (r_law [((eLsk D.int) a0, Own.no)]) (t_law a0) (fun r => (D.bl r, Own.no)) :=
  LF.run0 (s := [some ((eLsk D.int) a0, Own.no), none, none, none, none, none, none, none, none]) (fun _ => rfl) rfl fun h0 => (LS.seq (sn := fun (s : Unit) => [some ((eLsk D.int) a0, Own.no), none, none, none, none, none, none, none, none]) (LS.for_ (encx := D.int) (sh := fun (s521 : Unit) => [some ((eLsk D.int) a0, Own.no), none, none, none, none, none, none, none, none]) (sb := fun (x522 : Int) (s521 : Unit) => [some ((eLsk D.int) a0, Own.no), some (D.int x522, Own.no), none, none, none, none, none, none, none]) (step := (t_law_l0 a0)) (sp := fun _ => [some ((eLsk D.int) a0, Own.no), none, none, none, none, none, none, none, none]) (xs := fun (p519 : (List Int)) => p519) (a := fun (p519 : (List Int)) => ()) (LK.range1 (pCons (pCall (pCons (pCall (pCons (pnF 0 h0 rfl) pNil) (len_K (e := D.int) _)) (pCons rfl pNil)) rfl) pNil) h0) (fun p519 ρ h => h.weak (.keep (.skip (.skip (.skip (.skip (.skip (.skip (.skip (.skip Le.nil)))))))))) (fun x522 s521 ρ h => ⟨_, rfl, (h.set 1 _)⟩) (fun x522 s521 ρ h523 => (LS.set (enc := fun (p : (List Int)) => ((eLst D.int) p, Own.no)) (sp := fun _ => [some ((eLsk D.int) a0, Own.no), some (D.int x522, Own.no), none, none, none, none, none, none, none]) (LK.frz (e := fun p => (eLst D.int) p) (o := fun _ => Own.lst Own.no) (LK.callBc (encs := fun (q : Int) => [(D.int q, Own.no), (D.int x522, Own.no), (D.int (45 : Int), Own.no)]) (sp := fun _ => [some ((eLsk D.int) a0, Own.no), some (D.int x522, Own.no), none, none, none, none, none, none, none]) (sp' := fun _ => [some ((eLsk D.int) a0, Own.no), some (D.int x522, Own.no), none, none, none, none, none, none, none]) (T := fun (b : Int) (a : (List Int)) => a) (enc' := fun (p : (List Int)) => ((eLst D.int) p, Own.lst Own.no)) (LA.done (LA.comp (enc := fun (p : Int) => (D.int p, Own.no)) (sp := fun _ => [some ((eLsk D.int) a0, Own.no), some (D.int x522, Own.no), none, none, none, none, none, none, none]) (LK.pure (pnF 0 h523 rfl) (LK.pure (pnF 1 h523 rfl) (LK.po (po_ixK (e := D.int) (a0) (x522)) h523))) fun p524 ρ h525 => (LA.pure (pnF 1 h525 rfl) (LA.pure rfl (LA.nil h525))))) (fun (b : Int) => lk_law_numbers b x522 (45 : Int)) (fun b ρ hb => trivial) (fun _ _ => rfl) (fun _ _ => rfl))) fun p530 ρ h531 => (LS.set (enc := fun (p : Str) => (D.str p, Own.no)) (sp := fun _ => [some ((eLsk D.int) a0, Own.no), some (D.int x522, Own.no), some ((eLst D.int) p530, Own.no), none, none, none, none, none, none]) (LK.frz (e := fun p => D.str p) (o := fun _ => Own.no) (LK.callBc (encs := fun (q : Int) => [((eLst D.int) p530, Own.no), (D.int (4 : Int), Own.no), (D.int q, Own.no)]) (sp := fun _ => [some ((eLsk D.int) a0, Own.no), some (D.int x522, Own.no), some ((eLst D.int) p530, Own.no), none, none, none, none, none, none]) (sp' := fun _ => [some ((eLsk D.int) a0, Own.no), some (D.int x522, Own.no), some ((eLst D.int) p530, Own.no), none, none, none, none, none, none]) (T := fun (b : Int) (a : Str) => a) (enc' := fun (p : Str) => (D.str p, Own.no)) (LA.done (LA.pure (pnF 2 h531 rfl) (LA.pure rfl (LA.comp (enc := fun (p : Int) => (D.int p, Own.no)) (sp := fun _ => [some ((eLsk D.int) a0, Own.no), some (D.int x522, Own.no), some ((eLst D.int) p530, Own.no), none, none, none, none, none, none]) (LK.pure rfl (LK.bind (enc := fun (p : Int) => (D.int p, Own.no)) (sp := fun _ => [some ((eLsk D.int) a0, Own.no), some (D.int x522, Own.no), some ((eLst D.int) p530, Own.no), none, none, none, none, none, none]) (LK.bind (enc := fun (p : Int) => (D.int p, Own.no)) (sp := fun _ => [some ((eLsk D.int) a0, Own.no), some (D.int x522, Own.no), some ((eLst D.int) p530, Own.no), none, none, none, none, none, none]) (LK.bind (enc := fun (q : Int) => [(D.int q, Own.no)]) (sp := fun _ => [some ((eLsk D.int) a0, Own.no), some (D.int x522, Own.no), some ((eLst D.int) p530, Own.no), none, none, none, none, none, none]) (LA.done (LA.comp (enc := fun (p : Int) => (D.int p, Own.no)) (sp := fun _ => [some ((eLsk D.int) a0, Own.no), some (D.int x522, Own.no), some ((eLst D.int) p530, Own.no), none, none, none, none, none, none]) (LK.pure (pnF 2 h531 rfl) (LK.pure rfl (LK.po (po_ixL (e := D.int) (o := Own.no) (p530) ((0 : Int))) h531))) fun p568 ρ h569 => (LA.nil h569))) fun p570 ρ h571 => (LK.of rfl h571)) fun p572 ρ h573 => (LK.pure rfl (LK.of (o_mod _ _ (by decide)) h573))) fun p574 ρ h575 => (LK.of rfl h575))) fun p576 ρ h577 => (LA.nil h577))))) (fun (b : Int) => lk_law_alphabet p530 (4 : Int) b) (fun b ρ hb => trivial) (fun _ _ => rfl) (fun _ _ => rfl))) fun p582 ρ h583 => (LS.set (enc := fun (p : (List (Int × Int))) => ((eLst (eP2 D.int D.int)) p, Own.no)) (sp := fun _ => [some ((eLsk D.int) a0, Own.no), some (D.int x522, Own.no), some ((eLst D.int) p530, Own.no), some (D.str p582, Own.no), none, none, none, none, none]) (LK.frz (e := fun p => (eLst (eP2 D.int D.int)) p) (o := fun _ => Own.lst Own.no) (LK.callB (pCons (pnF 2 h583 rfl) (pCons (pnF 3 h583 rfl) pNil)) h583 trivial (lk_law_pairs p530 p582))) fun p584 ρ h585 => (LS.set (enc := fun (p : (Option Int)) => ((eOpt D.int) p, Own.no)) (sp := fun _ => [some ((eLsk D.int) a0, Own.no), some (D.int x522, Own.no), some ((eLst D.int) p530, Own.no), some (D.str p582, Own.no), some ((eLst (eP2 D.int D.int)) p584, Own.no), none, none, none, none]) (LK.frz (e := fun p => (eOpt D.int) p) (o := fun _ => Own.no) (LK.callB (pCons (pnF 3 h585 rfl) (pCons (pnF 4 h585 rfl) pNil)) h585 trivial (lk_law_due p582 p584))) fun p586 ρ h587 => (LS.set (enc := fun p => ((eP2 D.str (eTup (eP2 D.int D.int))) p, Own.no)) (sp := fun _ => [some ((eLsk D.int) a0, Own.no), some (D.int x522, Own.no), some ((eLst D.int) p530, Own.no), some (D.str p582, Own.no), some ((eLst (eP2 D.int D.int)) p584, Own.no), some ((eOpt D.int) p586, Own.no), none, none, none]) (LK.of (pTup (pCons rfl (pCons (pCall (pCons (pnF 4 h587 rfl) pNil) (tuple_L (e := (eP2 D.int D.int)) (o := Own.no) _)) pNil)) ⟨rfl, small rfl⟩) h587) fun v589 ρ h588 => (LS.seq (sn := fun (s : (Str × D)) => [some ((eLsk D.int) a0, Own.no), some (D.int x522, Own.no), some ((eLst D.int) p530, Own.no), some (D.str p582, Own.no), some ((eLst (eP2 D.int D.int)) p584, Own.no), some ((eOpt D.int) p586, Own.no), some ((eP2 D.str eD) s, Own.no), none, none]) (LS.ifp (pBool (p2 (pnF 5 h588 rfl) rfl (isNot_opt (e := D.int) (fun _ => ⟨(fun e => nomatch e), (fun e => nomatch e)⟩) _))) (fun _ => (LS.last (LS.set (enc := fun p => ((eP2 D.str (eOpt D.int)) p, Own.no)) (sp := fun _ => [some ((eLsk D.int) a0, Own.no), some (D.int x522, Own.no), some ((eLst D.int) p530, Own.no), some (D.str p582, Own.no), some ((eLst (eP2 D.int D.int)) p584, Own.no), some ((eOpt D.int) p586, Own.no), some ((eP2 D.str (eTup (eP2 D.int D.int))) v589, Own.no), none, none]) (LK.of (pTup (pCons rfl (pCons (pnF 5 h588 rfl) pNil)) ⟨rfl, small rfl⟩) h588) fun v591 ρ h590 => (LS.nx (a := (v591.1, ((eOpt D.int) v591.2))) (h590.weak (.keep (.keep (.keep (.keep (.keep (.keep (.keep (.skip (.skip Le.nil)))))))))))))) (fun _ => (LS.nx (a := (v589.1, ((eTup (eP2 D.int D.int)) v589.2))) (h588.weak (.keep (.keep (.keep (.keep (.keep (.keep (.keep (.skip (.skip Le.nil))))))))))))) fun s592 ρ h593 => (LS.seq (sn := fun (s : (Str × (Str × D))) => [some ((eLsk D.int) a0, Own.no), some (D.int x522, Own.no), some ((eLst D.int) p530, Own.no), some (D.str s.1, Own.no), some ((eLst (eP2 D.int D.int)) p584, Own.no), some ((eOpt D.int) p586, Own.no), some ((eP2 D.str eD) s.2, Own.no), none, none]) (LS.if_ (enc := fun (p : Bool) => p) (sp := fun _ => [some ((eLsk D.int) a0, Own.no), some (D.int x522, Own.no), some ((eLst D.int) p530, Own.no), some (D.str p582, Own.no), some ((eLst (eP2 D.int D.int)) p584, Own.no), some ((eOpt D.int) p586, Own.no), some ((eP2 D.str eD) s592, Own.no), none, none]) (LK.bool (b := fun p => p) (o := fun _ => Own.no) (LK.bind (enc := fun (p : Int) => (D.int p, Own.no)) (sp := fun _ => [some ((eLsk D.int) a0, Own.no), some (D.int x522, Own.no), some ((eLst D.int) p530, Own.no), some (D.str p582, Own.no), some ((eLst (eP2 D.int D.int)) p584, Own.no), some ((eOpt D.int) p586, Own.no), some ((eP2 D.str eD) s592, Own.no), none, none]) (LK.bind (enc := fun (p : Int) => (D.int p, Own.no)) (sp := fun _ => [some ((eLsk D.int) a0, Own.no), some (D.int x522, Own.no), some ((eLst D.int) p530, Own.no), some (D.str p582, Own.no), some ((eLst (eP2 D.int D.int)) p584, Own.no), some ((eOpt D.int) p586, Own.no), some ((eP2 D.str eD) s592, Own.no), none, none]) (LK.bind (enc := fun (q : Int) => [(D.int q, Own.no)]) (sp := fun _ => [some ((eLsk D.int) a0, Own.no), some (D.int x522, Own.no), some ((eLst D.int) p530, Own.no), some (D.str p582, Own.no), some ((eLst (eP2 D.int D.int)) p584, Own.no), some ((eOpt D.int) p586, Own.no), some ((eP2 D.str eD) s592, Own.no), none, none]) (LA.done (LA.comp (enc := fun (p : Int) => (D.int p, Own.no)) (sp := fun _ => [some ((eLsk D.int) a0, Own.no), some (D.int x522, Own.no), some ((eLst D.int) p530, Own.no), some (D.str p582, Own.no), some ((eLst (eP2 D.int D.int)) p584, Own.no), some ((eOpt D.int) p586, Own.no), some ((eP2 D.str eD) s592, Own.no), none, none]) (LK.pure (pnF 2 h593 rfl) (LK.pure rfl (LK.po (po_ixL (e := D.int) (o := Own.no) (p530) ((1 : Int))) h593))) fun p630 ρ h631 => (LA.nil h631))) fun p632 ρ h633 => (LK.of rfl h633)) fun p634 ρ h635 => (LK.pure rfl (LK.of (o_mod _ _ (by decide)) h635))) fun p636 ρ h637 => (LK.pure rfl (LK.of rfl h637)))) (fun p638 ρ h639 _ => (LS.set (enc := fun (p : (List Str)) => ((eLst D.str) p, Own.no)) (sp := fun _ => [some ((eLsk D.int) a0, Own.no), some (D.int x522, Own.no), some ((eLst D.int) p530, Own.no), some (D.str p582, Own.no), some ((eLst (eP2 D.int D.int)) p584, Own.no), some ((eOpt D.int) p586, Own.no), some ((eP2 D.str eD) s592, Own.no), none, none]) (LK.frz (e := fun p => (eLst D.str) p) (o := fun _ => Own.lst Own.no) (LK.bind (enc := fun (q : (Str × Str × Str)) => [(D.str (Str.ofString ""), Own.no), (D.str q.1, Own.no), (D.str q.2.1, Own.no), (D.str q.2.2, Own.no), (D.str (Str.ofString "0123456789ABCDEFGHIJKLMNOPQRSTU"), Own.no)]) (sp := fun _ => [some ((eLsk D.int) a0, Own.no), some (D.int x522, Own.no), some ((eLst D.int) p530, Own.no), some (D.str p582, Own.no), some ((eLst (eP2 D.int D.int)) p584, Own.no), some ((eOpt D.int) p586, Own.no), some ((eP2 D.str eD) s592, Own.no), none, none]) (LA.done (LA.pure rfl (LA.comp (enc := fun (p : Str) => (D.str p, Own.no)) (sp := fun _ => [some ((eLsk D.int) a0, Own.no), some (D.int x522, Own.no), some ((eLst D.int) p530, Own.no), some (D.str p582, Own.no), some ((eLst (eP2 D.int D.int)) p584, Own.no), some ((eOpt D.int) p586, Own.no), some ((eP2 D.str eD) s592, Own.no), none, none]) (LK.frz (e := fun p => D.str p) (o := fun _ => Own.no) (LK.pure (pnF 3 h639 rfl) (LK.bind (enc := fun (p : Str) => (D.str p, Own.no)) (sp := fun _ => [some ((eLsk D.int) a0, Own.no), some (D.int x522, Own.no), some ((eLst D.int) p530, Own.no), some (D.str p582, Own.no), some ((eLst (eP2 D.int D.int)) p584, Own.no), some ((eOpt D.int) p586, Own.no), some ((eP2 D.str eD) s592, Own.no), none, none]) (LK.pure (pnF 3 h639 rfl) (LK.pure rfl (LK.pure (pPart rfl) (LK.po (po_slS _ _ _) h639)))) fun p642 ρ h643 => (LK.po (po_addS (p582) (p642)) h643)))) fun p644 ρ h645 => (LA.comp (enc := fun (p : Str) => (D.str p, Own.no)) (sp := fun _ => [some ((eLsk D.int) a0, Own.no), some (D.int x522, Own.no), some ((eLst D.int) p530, Own.no), some (D.str p582, Own.no), some ((eLst (eP2 D.int D.int)) p584, Own.no), some ((eOpt D.int) p586, Own.no), some ((eP2 D.str eD) s592, Own.no), none, none]) (LK.frz (e := fun p => D.str p) (o := fun _ => Own.no) (LK.pure (pnF 3 h645 rfl) (LK.pure rfl (LK.po (po_addS (p582) ((Str.ofString " "))) h645)))) fun p646 ρ h647 => (LA.comp (enc := fun (p : Str) => (D.str p, Own.no)) (sp := fun _ => [some ((eLsk D.int) a0, Own.no), some (D.int x522, Own.no), some ((eLst D.int) p530, Own.no), some (D.str p582, Own.no), some ((eLst (eP2 D.int D.int)) p584, Own.no), some ((eOpt D.int) p586, Own.no), some ((eP2 D.str eD) s592, Own.no), none, none]) (LK.frz (e := fun p => D.str p) (o := fun _ => Own.no) (LK.pure (pnF 3 h647 rfl) (LK.pure rfl (LK.po (po_addS (p582) ((Str.ofString "\n"))) h647)))) fun p648 ρ h649 => (LA.pure rfl (LA.nil h649))))))) fun p650 ρ h651 => (LK.of (by first | rfl | exact if_pos ⟨rfl, small rfl⟩) h651))) fun p652 ρ h653 => (LS.set (enc := fun (p : (List Str)) => ((eLst D.str) p, Own.no)) (sp := fun _ => [some ((eLsk D.int) a0, Own.no), some (D.int x522, Own.no), some ((eLst D.int) p530, Own.no), some (D.str p582, Own.no), some ((eLst (eP2 D.int D.int)) p584, Own.no), some ((eOpt D.int) p586, Own.no), some ((eP2 D.str eD) s592, Own.no), none, some ((eLst D.str) p652, Own.no)]) (LK.frz (e := fun p => (eLst D.str) p) (o := fun _ => Own.lst Own.no) (LK.pure (pnF 8 h653 rfl) (LK.bind (enc := fun (p : (List Str)) => ((eLst D.str) p, Own.lst Own.no)) (sp := fun _ => [some ((eLsk D.int) a0, Own.no), some (D.int x522, Own.no), some ((eLst D.int) p530, Own.no), some (D.str p582, Own.no), some ((eLst (eP2 D.int D.int)) p584, Own.no), some ((eOpt D.int) p586, Own.no), some ((eP2 D.str eD) s592, Own.no), none, some ((eLst D.str) p652, Own.no)]) (LK.bind (enc := fun (q : (Str × Str)) => [(D.str (Str.ofString "0123456789ABCDEFGHIJKLMNOPQRSTUVWXYZ"), Own.no), (D.str q.1, Own.no), (D.str q.2, Own.no)]) (sp := fun _ => [some ((eLsk D.int) a0, Own.no), some (D.int x522, Own.no), some ((eLst D.int) p530, Own.no), some (D.str p582, Own.no), some ((eLst (eP2 D.int D.int)) p584, Own.no), some ((eOpt D.int) p586, Own.no), some ((eP2 D.str eD) s592, Own.no), none, some ((eLst D.str) p652, Own.no)]) (LA.done (LA.pure rfl (LA.comp (enc := fun (p : Str) => (D.str p, Own.no)) (sp := fun _ => [some ((eLsk D.int) a0, Own.no), some (D.int x522, Own.no), some ((eLst D.int) p530, Own.no), some (D.str p582, Own.no), some ((eLst (eP2 D.int D.int)) p584, Own.no), some ((eOpt D.int) p586, Own.no), some ((eP2 D.str eD) s592, Own.no), none, some ((eLst D.str) p652, Own.no)]) (LK.frz (e := fun p => D.str p) (o := fun _ => Own.no) (LK.pure rfl (LK.pure (pnF 3 h653 rfl) (LK.po (po_addS ((Str.ofString "\t")) (p582)) h653)))) fun p662 ρ h663 => (LA.comp (enc := fun (p : Str) => (D.str p, Own.no)) (sp := fun _ => [some ((eLsk D.int) a0, Own.no), some (D.int x522, Own.no), some ((eLst D.int) p530, Own.no), some (D.str p582, Own.no), some ((eLst (eP2 D.int D.int)) p584, Own.no), some ((eOpt D.int) p586, Own.no), some ((eP2 D.str eD) s592, Own.no), none, some ((eLst D.str) p652, Own.no)]) (LK.frz (e := fun p => D.str p) (o := fun _ => Own.no) (LK.bind (enc := fun (p : Str) => (D.str p, Own.no)) (sp := fun _ => [some ((eLsk D.int) a0, Own.no), some (D.int x522, Own.no), some ((eLst D.int) p530, Own.no), some (D.str p582, Own.no), some ((eLst (eP2 D.int D.int)) p584, Own.no), some ((eOpt D.int) p586, Own.no), some ((eP2 D.str eD) s592, Own.no), none, some ((eLst D.str) p652, Own.no)]) (LK.pure (pnF 3 h663 rfl) (LK.pure (p1 rfl rfl) (LK.po (po_ixS (p582) ((-(1 : Int)))) h663))) fun p664 ρ h665 => (LK.pure (pnF 3 h665 rfl) (LK.po (po_addS (p664) (p582)) h665)))) fun p666 ρ h667 => (LA.nil h667))))) fun p668 ρ h669 => (LK.of (by first | rfl | exact if_pos ⟨rfl, small rfl⟩) h669)) fun p670 ρ h671 => (LK.po (po_addL (e := D.str) (o := Own.no) (o' := Own.lst Own.no) (p652) (p670)) h671)))) fun p672 ρ h673 => (LS.set (enc := fun (p : Str) => (D.str p, Own.no)) (sp := fun _ => [some ((eLsk D.int) a0, Own.no), some (D.int x522, Own.no), some ((eLst D.int) p530, Own.no), some (D.str p582, Own.no), some ((eLst (eP2 D.int D.int)) p584, Own.no), some ((eOpt D.int) p586, Own.no), some ((eP2 D.str eD) s592, Own.no), none, some ((eLst D.str) p672, Own.no)]) (LK.pure (pnF 8 h673 rfl) (LK.bind (enc := fun (p : Int) => (D.int p, Own.no)) (sp := fun _ => [some ((eLsk D.int) a0, Own.no), some (D.int x522, Own.no), some ((eLst D.int) p530, Own.no), some (D.str p582, Own.no), some ((eLst (eP2 D.int D.int)) p584, Own.no), some ((eOpt D.int) p586, Own.no), some ((eP2 D.str eD) s592, Own.no), none, some ((eLst D.str) p672, Own.no)]) (LK.bind (enc := fun (p : Int) => (D.int p, Own.no)) (sp := fun _ => [some ((eLsk D.int) a0, Own.no), some (D.int x522, Own.no), some ((eLst D.int) p530, Own.no), some (D.str p582, Own.no), some ((eLst (eP2 D.int D.int)) p584, Own.no), some ((eOpt D.int) p586, Own.no), some ((eP2 D.str eD) s592, Own.no), none, some ((eLst D.str) p672, Own.no)]) (LK.bind (enc := fun (q : Int) => [(D.int q, Own.no)]) (sp := fun _ => [some ((eLsk D.int) a0, Own.no), some (D.int x522, Own.no), some ((eLst D.int) p530, Own.no), some (D.str p582, Own.no), some ((eLst (eP2 D.int D.int)) p584, Own.no), some ((eOpt D.int) p586, Own.no), some ((eP2 D.str eD) s592, Own.no), none, some ((eLst D.str) p672, Own.no)]) (LA.done (LA.comp (enc := fun (p : Int) => (D.int p, Own.no)) (sp := fun _ => [some ((eLsk D.int) a0, Own.no), some (D.int x522, Own.no), some ((eLst D.int) p530, Own.no), some (D.str p582, Own.no), some ((eLst (eP2 D.int D.int)) p584, Own.no), some ((eOpt D.int) p586, Own.no), some ((eP2 D.str eD) s592, Own.no), none, some ((eLst D.str) p672, Own.no)]) (LK.bind (enc := fun (p : Int) => (D.int p, Own.no)) (sp := fun _ => [some ((eLsk D.int) a0, Own.no), some (D.int x522, Own.no), some ((eLst D.int) p530, Own.no), some (D.str p582, Own.no), some ((eLst (eP2 D.int D.int)) p584, Own.no), some ((eOpt D.int) p586, Own.no), some ((eP2 D.str eD) s592, Own.no), none, some ((eLst D.str) p672, Own.no)]) (LK.pure (pnF 2 h673 rfl) (LK.pure rfl (LK.po (po_ixL (e := D.int) (o := Own.no) (p530) ((1 : Int))) h673))) fun p702 ρ h703 => (LK.pure rfl (LK.po (po_div (p702) ((8 : Int))) h703))) fun p704 ρ h705 => (LA.nil h705))) fun p706 ρ h707 => (LK.of rfl h707)) fun p708 ρ h709 => (LK.pure rfl (LK.of (o_mod _ _ (by decide)) h709))) fun p710 ρ h711 => (LK.po (po_ixL (e := D.str) (o := Own.no) (p672) (p710)) h711))) fun p712 ρ h713 => (LS.last (LS.set (enc := fun p => ((eP2 D.str D.str) p, Own.no)) (sp := fun _ => [some ((eLsk D.int) a0, Own.no), some (D.int x522, Own.no), some ((eLst D.int) p530, Own.no), some (D.str p712, Own.no), some ((eLst (eP2 D.int D.int)) p584, Own.no), some ((eOpt D.int) p586, Own.no), some ((eP2 D.str eD) s592, Own.no), none, some ((eLst D.str) p672, Own.no)]) (LK.of (pTup (pCons rfl (pCons (pnF 3 h713 rfl) pNil)) ⟨rfl, small rfl⟩) h713) fun v715 ρ h714 => (LS.nx (a := (p712, (v715.1, (D.str v715.2)))) (h714.weak (.keep (.keep (.keep (.keep (.keep (.keep (.keep (.skip (.skip Le.nil))))))))))))))))) (fun p638 ρ h639 _ => (LS.nx (a := (p582, s592)) (h639.weak (.keep (.keep (.keep (.keep (.keep (.keep (.keep (.skip (.skip Le.nil))))))))))))) fun s716 ρ h717 => (LS.setp h717 (pnF 4 h717 rfl) fun ρ h718 => (LS.seq (sn := fun (s : (Bool × List (Int × Int))) => [some ((eLsk D.int) a0, Own.no), some (D.int x522, Own.no), some ((eLst D.int) p530, Own.no), some (D.str s716.1, Own.no), some ((eLst (eP2 D.int D.int)) p584, Own.no), some ((eOpt D.int) p586, Own.no), some ((eP2 D.str eD) s716.2, Own.no), some ((eSq (eP2 D.int D.int)) s, Own.no), none]) (LS.if_ (enc := fun (p : Bool) => p) (sp := fun _ => [some ((eLsk D.int) a0, Own.no), some (D.int x522, Own.no), some ((eLst D.int) p530, Own.no), some (D.str s716.1, Own.no), some ((eLst (eP2 D.int D.int)) p584, Own.no), some ((eOpt D.int) p586, Own.no), some ((eP2 D.str eD) s716.2, Own.no), some ((eLst (eP2 D.int D.int)) p584, Own.no), none]) (LK.bool (b := fun p => p) (o := fun _ => Own.no) (LK.bind (enc := fun (p : Int) => (D.int p, Own.no)) (sp := fun _ => [some ((eLsk D.int) a0, Own.no), some (D.int x522, Own.no), some ((eLst D.int) p530, Own.no), some (D.str s716.1, Own.no), some ((eLst (eP2 D.int D.int)) p584, Own.no), some ((eOpt D.int) p586, Own.no), some ((eP2 D.str eD) s716.2, Own.no), some ((eLst (eP2 D.int D.int)) p584, Own.no), none]) (LK.bind (enc := fun (p : Int) => (D.int p, Own.no)) (sp := fun _ => [some ((eLsk D.int) a0, Own.no), some (D.int x522, Own.no), some ((eLst D.int) p530, Own.no), some (D.str s716.1, Own.no), some ((eLst (eP2 D.int D.int)) p584, Own.no), some ((eOpt D.int) p586, Own.no), some ((eP2 D.str eD) s716.2, Own.no), some ((eLst (eP2 D.int D.int)) p584, Own.no), none]) (LK.bind (enc := fun (q : Int) => [(D.int q, Own.no)]) (sp := fun _ => [some ((eLsk D.int) a0, Own.no), some (D.int x522, Own.no), some ((eLst D.int) p530, Own.no), some (D.str s716.1, Own.no), some ((eLst (eP2 D.int D.int)) p584, Own.no), some ((eOpt D.int) p586, Own.no), some ((eP2 D.str eD) s716.2, Own.no), some ((eLst (eP2 D.int D.int)) p584, Own.no), none]) (LA.done (LA.comp (enc := fun (p : Int) => (D.int p, Own.no)) (sp := fun _ => [some ((eLsk D.int) a0, Own.no), some (D.int x522, Own.no), some ((eLst D.int) p530, Own.no), some (D.str s716.1, Own.no), some ((eLst (eP2 D.int D.int)) p584, Own.no), some ((eOpt D.int) p586, Own.no), some ((eP2 D.str eD) s716.2, Own.no), some ((eLst (eP2 D.int D.int)) p584, Own.no), none]) (LK.pure (pnF 2 h718 rfl) (LK.pure rfl (LK.po (po_ixL (e := D.int) (o := Own.no) (p530) ((9 : Int))) h718))) fun p755 ρ h756 => (LA.nil h756))) fun p757 ρ h758 => (LK.of rfl h758)) fun p759 ρ h760 => (LK.pure rfl (LK.of (o_mod _ _ (by decide)) h760))) fun p761 ρ h762 => (LK.pure rfl (LK.of rfl h762)))) (fun p763 ρ h764 _ => (LS.last (LS.setp h764 (pCall (pCons (pnF 4 h764 rfl) pNil) (tuple_L (e := (eP2 D.int D.int)) (o := Own.no) _)) fun ρ h765 => (LS.nx (a := (false, p584)) (h765.weak (.keep (.keep (.keep (.keep (.keep (.keep (.keep (.keep (.skip Le.nil)))))))))))))) (fun p763 ρ h764 _ => (LS.nx (a := (true, p584)) (h764.weak (.keep (.keep (.keep (.keep (.keep (.keep (.keep (.keep (.skip Le.nil))))))))))))) fun s766 ρ h767 => (LS.if_ (enc := fun (p : Bool) => !p) (sp := fun _ => [some ((eLsk D.int) a0, Own.no), some (D.int x522, Own.no), some ((eLst D.int) p530, Own.no), some (D.str s716.1, Own.no), some ((eLst (eP2 D.int D.int)) p584, Own.no), some ((eOpt D.int) p586, Own.no), some ((eP2 D.str eD) s716.2, Own.no), some ((eSq (eP2 D.int D.int)) s766, Own.no), none]) (LK.notT (b := fun p => p) (LK.tru (e := fun p => D.bl p) (b := fun p => p) (o := fun _ => Own.no) (LK.callBc (encs := fun (q : (Str × D)) => [((eP2 D.str eD) q, Own.no), ((eP2 D.str eD) s716.2, Own.no)]) (sp := fun _ => [some ((eLsk D.int) a0, Own.no), some (D.int x522, Own.no), some ((eLst D.int) p530, Own.no), some (D.str s716.1, Own.no), some ((eLst (eP2 D.int D.int)) p584, Own.no), some ((eOpt D.int) p586, Own.no), some ((eP2 D.str eD) s716.2, Own.no), some ((eSq (eP2 D.int D.int)) s766, Own.no), none]) (sp' := fun _ => [some ((eLsk D.int) a0, Own.no), some (D.int x522, Own.no), some ((eLst D.int) p530, Own.no), some (D.str s716.1, Own.no), some ((eLst (eP2 D.int D.int)) p584, Own.no), some ((eOpt D.int) p586, Own.no), some ((eP2 D.str eD) s716.2, Own.no), some ((eSq (eP2 D.int D.int)) s766, Own.no), none]) (T := fun (b : (Str × D)) (a : Bool) => a) (enc' := fun (p : Bool) => (D.bl p, Own.no)) (LA.done (LA.comp (enc := fun (p : (Str × D)) => ((eP2 D.str eD) p, Own.no)) (sp := fun _ => [some ((eLsk D.int) a0, Own.no), some (D.int x522, Own.no), some ((eLst D.int) p530, Own.no), some (D.str s716.1, Own.no), some ((eLst (eP2 D.int D.int)) p584, Own.no), some ((eOpt D.int) p586, Own.no), some ((eP2 D.str eD) s716.2, Own.no), some ((eSq (eP2 D.int D.int)) s766, Own.no), none]) (LK.callB (pCons (pnF 3 h767 rfl) (pCons (pnF 7 h767 rfl) pNil)) h767 trivial (lk_law_ask s716.1 s766)) fun p768 ρ h769 => (LA.pure (pnF 6 h769 rfl) (LA.nil h769)))) (fun (b : (Str × D)) => lk_law_same ((eP2 D.str eD) b) ((eP2 D.str eD) s716.2)) (fun b ρ hb => trivial) (fun _ _ => rfl) (fun _ _ => rfl)) (fun _ => rfl))) (fun p774 ρ h775 _ => (LS.retp (a := false) rfl trivial)) (fun p774 ρ h775 _ => (LS.nx (a := ()) (h775.weak (.keep (.skip (.skip (.skip (.skip (.skip (.skip (.skip (.skip Le.nil)))))))))))))))))))))))) fun s776 ρ h777 => (LS.retp (a := true) rfl trivial))
end DL
namespace DL
open PySem PySem.Spec L2
theorem idx_at {α : Type} {xs : List α} {i : Nat} (h : i < xs.length) {j : Int} (e : j = (i : Int)) : idx xs j = .ok xs[i] := by subst e; exact idx_lt h
theorem t_put_together_eq (row : List Int) (p : Int × Int) (pc : Int) (hl : row.length < sizeLine) : t_put_together row p pc = .ok (joinP p.1 p.2 pc row) := by
  obtain ⟨s, h1, h2⟩ := whileT_inv (L := Empty) (t := t_put_together_t0 row) (b := t_put_together_l0 row p pc)
    (fun s => ∃ i : Nat, s.2 = (i : Int) ∧ i ≤ row.length ∧ s.1.length ≤ i ∧ s.1 ++ joinP p.1 p.2 pc (row.drop i) = joinP p.1 p.2 pc row) (fun s => row.length - s.2.toNat)
    (fun s => s.1 = joinP p.1 p.2 pc row) (by
      rintro ⟨found, at'⟩ ⟨i, rfl, hi, hf, hj⟩
      by_cases hlt : i < row.length
      · right
        refine ⟨by simp [t_put_together_t0]; omega, ?_⟩
        have hx := List.getElem?_eq_getElem hlt
        have gx := idx_at hlt (rfl : ((i : Nat) : Int) = _)
        have hap : ∀ y : Int, appT found y = .ok (found ++ [y]) := fun y => appT_ok (by simp only at hf; omega)
        by_cases hlt2 : i + 1 < row.length
        · have hy := List.getElem?_eq_getElem hlt2
          have gy := idx_at hlt2 (show ((i : Nat) : Int) + 1 = _ by omega)
          have hd := drop_two hx hy
          simp only at hj hf
          rw [hd] at hj
          by_cases hp : (row[i], row[i + 1]) = p
          · refine ⟨(found ++ [pc], (i : Int) + 2), .inl ?_, by simp; omega, i + 2, by simp, by omega, by simp; omega, ?_⟩
            · have hc : ((i : Int) + 1 < row.length) := by omega
              simp [t_put_together_l0, gx, gy, hc, hp, hap]
            · rw [joinP, if_pos (by rw [← hp]; exact ⟨rfl, rfl⟩)] at hj; simpa using hj
          · refine ⟨(found ++ [row[i]], (i : Int) + 1), .inl ?_, by simp; omega, i + 1, by simp, by omega, by simp; omega, ?_⟩
            · have hc : ((i : Int) + 1 < row.length) := by omega
              simp [t_put_together_l0, gx, gy, hc, hp, hap]
            · rw [joinP, if_neg (fun e => hp (by rw [e.1, e.2]))] at hj
              rw [List.drop_eq_getElem_cons hlt2]; simpa using hj
        · have hc : ¬ ((i : Int) + 1 < row.length) := by omega
          refine ⟨(found ++ [row[i]], (i : Int) + 1), .inl ?_, by simp; omega, i + 1, by simp, by omega, by simp at hf ⊢; omega, ?_⟩
          · simp [t_put_together_l0, gx, hc, hap]
          · simp only at hj
            rw [List.drop_eq_getElem_cons hlt, List.drop_eq_nil_of_le (by omega : row.length ≤ i + 1)] at hj
            rw [List.drop_eq_nil_of_le (by omega)]
            simpa [joinP] using hj
      · left
        have he : i = row.length := by omega
        subst he
        simp only at hj
        rw [List.drop_length] at hj
        refine ⟨by simp [t_put_together_t0], ?_⟩
        simpa [joinP] using hj) ([], 0) ⟨0, rfl, by simp, by simp, by simp⟩
  unfold t_put_together
  rw [h1]
  simp [h2]
theorem t_lowest_pair_eq (ps : List (Int × Int)) (row : List Int) (hl : row.length < sizeLine) : ∃ best, t_lowest_pair (rkT 0 ps) row = .ok best ∧ BestT ps row (row.length - 1) best := by
  have e : ((row.length : Int) - 1).toNat = row.length - 1 := by omega
  obtain ⟨best, h1, h2⟩ := forT_inv (L := Empty) (step := t_lowest_pair_l0 (rkT 0 ps) row) (fun i best => BestT ps row i best) (xs := rangeI 0 (row.length - 1)) (a := none) 0 (fun i x best hx hb => by
    have hi : i < row.length - 1 := by
      have := (List.getElem?_eq_some_iff.mp hx).1
      simpa [rangeI] using this
    have ex : x = (i : Int) := by
      simp [rangeI, hi] at hx; omega
    subst ex
    rw [Nat.zero_add] at hb
    have l1 : i < row.length := by omega
    have l2 : i + 1 < row.length := by omega
    have gx := idx_at l1 (rfl : ((i : Nat) : Int) = _)
    have gy := idx_at l2 (show ((i : Nat) : Int) + 1 = _ by omega)
    have hxx := List.getElem?_eq_getElem l1
    have hyy := List.getElem?_eq_getElem l2
    have tv := tval_rk (row[i], row[i + 1]) 0 ps
    have go : ∃ best', (t_lowest_pair_l0 (rkT 0 ps) row (i : Int) best = .ok (.nx best')) ∧ ((BetterT ps (row[i], row[i + 1]) best ∧ best' = some (row[i], row[i + 1])) ∨ (¬ BetterT ps (row[i], row[i + 1]) best ∧ best' = best)) := by
      cases hr : rankGo 0 ps (row[i], row[i + 1]) with
      | none =>
        rw [hr] at tv
        refine ⟨best, ?_, .inr ⟨(fun h => by have := h.1; rw [hr] at this; cases this), rfl⟩⟩
        simp [t_lowest_pair_l0, gx, gy, tv]
      | some r0 =>
        rw [hr] at tv
        cases best with
        | none =>
          refine ⟨some (row[i], row[i + 1]), ?_, .inl ⟨⟨by rw [hr]; rfl, .inl rfl⟩, rfl⟩⟩
          simp [t_lowest_pair_l0, gx, gy, tv]
        | some b =>
          obtain ⟨r, q1, _⟩ := hb
          have tb := tval_rk b 0 ps
          rw [q1] at tb
          by_cases hlt : r0 < r
          · refine ⟨some (row[i], row[i + 1]), ?_, .inl ⟨⟨by rw [hr]; rfl, .inr ⟨b, r0, r, rfl, hr, q1, hlt⟩⟩, rfl⟩⟩
            simp [t_lowest_pair_l0, gx, gy, tv, tb, dget, hlt]
          · refine ⟨some b, ?_, .inr ⟨fun h => ?_, rfl⟩⟩
            · simp [t_lowest_pair_l0, gx, gy, tv, tb, dget, hlt]
            · rcases h.2 with h | ⟨b', r1, r2, e0, e1, e2, e3⟩
              · cases h
              · cases e0; rw [hr] at e1; rw [q1] at e2; cases e1; cases e2; exact hlt e3
    obtain ⟨best', g1, g2⟩ := go
    exact ⟨best', .inl g1, by rw [Nat.zero_add]; exact bestT_step hxx hyy hb best' g2⟩) (fun j x y hj => absurd hj (by omega))
  have hlen : 0 + (rangeI 0 (row.length - 1)).length = row.length - 1 := by simp [rangeI]
  rw [hlen] at h2
  refine ⟨best, ?_, h2⟩
  unfold t_lowest_pair
  rw [rng1_ok (by have := sizeL; omega), e]
  simp [h1]
theorem t_cut_row_eq (n : Nat) (ps : List (Int × Int)) (row : List Int) (hw : WFp n ps) (hl : row.length < sizeLine) : t_cut_row (rkT 0 ps) n row = .ok (stGo n 0 ps row) ∧ ∀ q ∈ ps, ¬ Adj (stGo n 0 ps row) q.1 q.2 := by
  obtain ⟨best0, hb0, hB0⟩ := t_lowest_pair_eq ps row hl
  obtain ⟨s, h1, h2, h3⟩ := whileT_inv (L := Empty) (t := t_cut_row_t0) (b := t_cut_row_l0 (rkT 0 ps) n)
    (fun s => s.1.length ≤ row.length ∧ BestT ps s.1 (s.1.length - 1) s.2 ∧ ∃ k, (∀ j q, j < k → ps[j]? = some q → ¬ Adj s.1 q.1 q.2) ∧ stGo n k (ps.drop k) s.1 = stGo n 0 ps row) (fun s => s.1.length)
    (fun s => s.1 = stGo n 0 ps row ∧ ∀ q ∈ ps, ¬ Adj s.1 q.1 q.2) (by
      rintro ⟨cur, best⟩ ⟨hc, hB, k, hk, hst⟩
      simp only at hc hB hk hst
      cases best with
      | none =>
        left
        have hn := bestT_none hw.2 hB
        have := stGo_id (n := n) (k := k) (ps := ps.drop k) (row := cur) fun q m => hn q (List.mem_of_mem_drop m)
        rw [this] at hst
        exact ⟨by simp [t_cut_row_t0], hst, hn⟩
      | some p =>
        right
        obtain ⟨a, b⟩ := p
        obtain ⟨r, q1, q2, q3, q4, q5⟩ := bestT_some hw hB k hk
        have hlt := joinP_lt (p := ((n : Int) + (r : Int))) q4
        obtain ⟨best', e1, e2⟩ := t_lowest_pair_eq ps (joinP a b ((n : Int) + (r : Int)) cur) (by omega)
        have hpt := t_put_together_eq cur (a, b) ((n : Int) + (r : Int)) (by omega)
        have tb := tval_rk (a, b) 0 ps
        rw [q1] at tb
        have hwf := hw.1
        refine ⟨by simp [t_cut_row_t0], (joinP a b ((n : Int) + (r : Int)) cur, best'), .inl ?_, hlt, by simp only; omega, e2, r + 1, ?_, ?_⟩
        · simp [t_cut_row_l0, dget, tb, hpt, e1]
        · rintro j ⟨x, y⟩ hj hq had
          have hx : x ≠ ((n : Int) + (r : Int)) ∧ y ≠ ((n : Int) + (r : Int)) := by
            have := hwf j x y hq; omega
          obtain ⟨w1, w2⟩ := joinP_adj had hx.1 hx.2
          by_cases e : j = r
          · subst e; rw [q3] at hq; cases hq; exact w2 ⟨rfl, rfl⟩
          · exact q5 j (x, y) (by omega) hq w1
        · rw [← hst]; exact (stGo_step hw q2 q3 q5).symm) (row, best0) ⟨Nat.le_refl _, hB0, 0, fun j q hj => absurd hj (by omega), by simp⟩
  rw [← h2]
  refine ⟨?_, h3⟩
  unfold t_cut_row
  rw [hb0]
  simp [h1]
def restJ (a b p : Int) (row : List Int) (i : Nat) (gone : Bool) : List Int := if gone then joinP a b p (row.drop (i + 1)) else joinP a b p (row.drop i)
theorem t_law_join_all_eq (row : List Int) (p : Int × Int) (pc : Int) (hl : row.length < sizeLine) : t_law_join_all row p pc = .ok (joinP p.1 p.2 pc row) := by
  obtain ⟨s, h1, h2, h3⟩ := forT_inv (L := Empty) (step := t_law_join_all_l0 row p pc) (fun i s => s.1.length ≤ i ∧ s.1 ++ restJ p.1 p.2 pc row i s.2 = joinP p.1 p.2 pc row) (xs := rangeI 0 row.length) (a := ([], false)) 0 (fun i x s hx hs => by
    obtain ⟨joined, gone⟩ := s
    obtain ⟨hj, hr⟩ := hs
    have hi : i < row.length := by
      have := (List.getElem?_eq_some_iff.mp hx).1
      simpa [rangeI] using this
    have ex : x = (i : Int) := by
      simp [rangeI, hi] at hx; omega
    subst ex
    rw [Nat.zero_add] at hj hr ⊢
    simp only at hj hr
    have gx := idx_at hi (rfl : ((i : Nat) : Int) = _)
    have hxx := List.getElem?_eq_getElem hi
    have hap : ∀ y : Int, appT joined y = .ok (joined ++ [y]) := fun y => appT_ok (by omega)
    rw [← hr]
    cases gone with
    | true => exact ⟨(joined, false), .inl (by simp [t_law_join_all_l0]), by simp only; omega, by simp [restJ]⟩
    | false =>
      by_cases hlt2 : i + 1 < row.length
      · have hyy := List.getElem?_eq_getElem hlt2
        have gy := idx_at hlt2 (show ((i : Nat) : Int) + 1 = _ by omega)
        have hd := drop_two hxx hyy
        have hc : ((i : Int) + 1 < row.length) := by omega
        by_cases hp : (row[i], row[i + 1]) = p
        · refine ⟨(joined ++ [pc], true), .inl (by simp [t_law_join_all_l0, gx, gy, hc, hp, hap]), by simp; omega, ?_⟩
          simp only [restJ, if_true, Bool.false_eq_true, if_false]
          rw [hd, joinP, if_pos (by rw [← hp]; exact ⟨rfl, rfl⟩)]; simp
        · refine ⟨(joined ++ [row[i]], false), .inl (by simp [t_law_join_all_l0, gx, gy, hc, hp, hap]), by simp; omega, ?_⟩
          simp only [restJ, Bool.false_eq_true, if_false]
          rw [hd, joinP, if_neg (fun e => hp (by rw [e.1, e.2])), List.drop_eq_getElem_cons hlt2]; simp
      · have hc : ¬ ((i : Int) + 1 < row.length) := by omega
        refine ⟨(joined ++ [row[i]], false), .inl (by simp [t_law_join_all_l0, gx, hc, hap]), by simp; omega, ?_⟩
        simp only [restJ, Bool.false_eq_true, if_false]
        rw [List.drop_eq_getElem_cons hi, List.drop_eq_nil_of_le (by omega : row.length ≤ i + 1)]; simp [joinP]) ⟨by simp, by simp [restJ]⟩
  have hlen : 0 + (rangeI 0 row.length).length = row.length := by simp [rangeI]
  rw [hlen] at h3
  have e : s.1 = joinP p.1 p.2 pc row := by
    rw [← h3]
    unfold restJ
    split <;> simp [List.drop_eq_nil_of_le, joinP]
  unfold t_law_join_all
  rw [rng1_nat (by have := sizeL; omega)]
  simp [h1, e]
theorem ind_ints (r : List Int) : indD (eLst D.int r) (.lst .no) = true := idt_lst (fun _ => rfl) r
theorem t_law_staged_eq (n : Nat) (ps : List (Int × Int)) (row : List Int) (hl : row.length < sizeLine) (hps : ps.length < sizeLine) : t_law_staged n ps row = .ok (stGo n 0 ps row) := by
  obtain ⟨s, h1, h2⟩ := forT_inv (L := Empty) (step := t_law_staged_l0 n ps) (fun i s => s = stGo n 0 (ps.take i) row) (xs := rangeI 0 ps.length) (a := row) 0 (fun i x s hx hs => by
    have hi : i < ps.length := by
      have := (List.getElem?_eq_some_iff.mp hx).1
      simpa [rangeI] using this
    have ex : x = (i : Int) := by
      simp [rangeI, hi] at hx; omega
    subst ex
    rw [Nat.zero_add] at hs ⊢
    subst hs
    have gx := idx_at hi (rfl : ((i : Nat) : Int) = _)
    have e1 : ps.take (i + 1) = ps.take i ++ [ps[i]] := by rw [List.take_succ, List.getElem?_eq_getElem hi]; rfl
    have e2 : (ps.take i).length = i := by simp; omega
    have e3 : stGo n 0 (ps.take (i + 1)) row = joinP ps[i].1 ps[i].2 ((n : Int) + (i : Int)) (stGo n 0 (ps.take i) row) := by rw [e1, stGo_snoc, e2, Nat.zero_add]
    have hja := t_law_join_all_eq (stGo n 0 (ps.take i) row) ps[i] ((n : Int) + (i : Int)) (by have := stGo_len (n := n) (k := 0) (ps := ps.take i) (row := row); omega)
    refine ⟨_, .inl ?_, e3.symm⟩
    simp [t_law_staged_l0, gx, hja]) rfl
  have hlen : 0 + (rangeI 0 ps.length).length = ps.length := by simp [rangeI]
  rw [hlen, List.take_length] at h2
  unfold t_law_staged
  rw [rng1_nat (by have := sizeL; omega)]
  simp [h1, h2]
end DL
namespace DL
open PySem PySem.Spec L2
@[simp] theorem ite_ok {α : Type} {c : Prop} [Decidable c] (a b : α) : (if c then TR.ok a else TR.ok b) = TR.ok (if c then a else b) := by split <;> rfl
@[simp] theorem ite_nx {S L R : Type} {c : Prop} [Decidable c] (a b : S) : (if c then (Fo.nx a : Fo S L R) else Fo.nx b) = Fo.nx (if c then a else b) := by split <;> rfl
theorem m_l {k : Int} (h : -(2 ^ 64) < k ∧ k < 2 ^ 64) (i : Int) : mulT k i = .ok (k * i) := mulT_l h
theorem m_r {k : Int} (h : -(2 ^ 64) < k ∧ k < 2 ^ 64) (i : Int) : mulT i k = .ok (i * k) := mulT_r h
theorem m_mod {k : Int} (h0 : 0 < k) (h : k < 2 ^ 64) (i : Int) : mulT (i % k) (i % k) = .ok ((i % k) * (i % k)) := mulT_l (by have := Int.emod_nonneg i (show k ≠ 0 by omega); have := Int.emod_lt_of_pos i h0; omega)
theorem law_numbers_sat (cell at' : Int) : (t_law_numbers cell at' 45).Sat fun ns => ns.length = 45 ∧ ∀ x ∈ ns, 0 ≤ x ∧ x < 1000 := by
  have step : ∀ (great : Bool) (x : Int) (s : Int × List Int), s.2.length < 45 → ∃ s', t_law_numbers_l0 at' great x s = .ok (.nx s') ∧ ∃ y, 0 ≤ y ∧ y < 1000 ∧ s'.2 = s.2 ++ [y] := by
    rintro great x ⟨rest, ns⟩ hl
    have hap : ∀ y : Int, appT ns y = .ok (ns ++ [y]) := fun y => appT_ok (by have := sizeL; simp only at hl; omega)
    cases great with
    | true =>
      refine ⟨(rest / 1000, ns ++ [rest % 1000]), ?_, rest % 1000, Int.emod_nonneg _ (by decide), Int.emod_lt_of_pos _ (by decide), rfl⟩
      simp [t_law_numbers_l0, hap, divT_ok (show (0 : Int) < 1000 by decide) (by decide)]
    | false =>
      simp only [t_law_numbers_l0, Bool.false_eq_true, if_false, m_r (k := 48271) (by decide), m_r (k := 69621) (by decide), m_r (k := 16807) (by decide), m_r (k := 40692) (by decide), m_r (k := 30269) (by decide), TR.bind_ok, TR.bind_pure, m_mod (k := 2147483647) (by decide) (by decide), m_mod (k := 2147483629) (by decide) (by decide), divT_ok (show (0 : Int) < 5 by decide) (by decide), hap]
      exact ⟨_, rfl, _, Int.emod_nonneg _ (by decide), Int.emod_lt_of_pos _ (by decide), rfl⟩
  have hp : powT 10 18 = .ok ((10 : Int) ^ (18 : Int).toNat) := TR.guard_of (by decide) _
  unfold t_law_numbers
  rw [hp]
  simp only [TR.bind_ok]
  rw [m_l (by decide)]
  simp only [TR.bind_ok]
  rw [rng1_ok (by decide)]
  simp only [TR.bind_ok]
  generalize decide ((10 : Int) ^ (18 : Int).toNat ≤ if cell < 0 then -cell else cell) = great
  obtain ⟨s, h1, h2, h3⟩ := forT_inv (L := Empty) (step := t_law_numbers_l0 at' great) (fun i s => s.2.length = i ∧ ∀ x ∈ s.2, 0 ≤ x ∧ x < 1000) (xs := rangeI 0 (45 : Int).toNat) (a := ((2 * if cell < 0 then -cell else cell) + (if decide (cell < 0) = true then 1 else 0), [])) 0 (fun i x s hx hs => by
    obtain ⟨hi, _⟩ := rangeI_get hx
    have hi : i < 45 := hi
    obtain ⟨s', e1, y, y0, y1, e2⟩ := step great x s (by omega)
    refine ⟨s', .inl e1, by rw [e2]; simp; omega, fun z m => ?_⟩
    rw [e2] at m
    rcases List.mem_append.mp m with m | m
    · exact hs.2 z m
    · simp at m; subst m; exact ⟨y0, y1⟩) ⟨rfl, by simp⟩
  rw [h1]
  simp only [seq_nx, fin_rt, TR.sat_ok]
  exact ⟨by rw [h2]; simp, h3⟩
theorem num_at {ns : List Int} (h : ns.length = 45 ∧ ∀ x ∈ ns, 0 ≤ x ∧ x < 1000) {k : Int} (h0 : 0 ≤ k) (h1 : k < 45) : ∃ v, idx ns k = .ok v ∧ 0 ≤ v ∧ v < 1000 := by
  have hk : k.toNat < ns.length := by omega
  exact ⟨ns[k.toNat], idx_at hk (by omega), h.2 _ (List.getElem_mem _)⟩
/-! the alphabet -/
theorem big : ∃ B : Str, addS (Str.ofString " !\"#$&'()*+,-./0123456789:;<=>?@ABCDEFGHIJKLMNOPQRSTUVWXYZ[\\]^_") (Str.ofString "`abcdefghijklmnopqrstuvwxyz{|}~") = .ok B ∧ B.length = 94 ∧ ∀ c ∈ tl B, 32 ≤ c ∧ c ≤ 126 := by
  refine ⟨_, addS_ok (by decide +kernel), by decide +kernel, ?_⟩
  have : (tl (Str.ofString " !\"#$&'()*+,-./0123456789:;<=>?@ABCDEFGHIJKLMNOPQRSTUVWXYZ[\\]^_" ++ Str.ofString "`abcdefghijklmnopqrstuvwxyz{|}~")).all (fun c => decide (32 ≤ c) && decide (c ≤ 126)) = true := by decide +kernel
  intro c m
  have := List.all_eq_true.mp this c m
  simpa using this
theorem law_alphabet_sat {ns : List Int} (hn : ns.length = 45 ∧ ∀ x ∈ ns, 0 ≤ x ∧ x < 1000) {many : Int} (h0 : 1 ≤ many) (h1 : many ≤ 5) : (t_law_alphabet ns 4 many).Sat Alph := by
  obtain ⟨B, hB, hBl, hBr⟩ := big
  have hsz := sizeL
  have hlen : lenS B = .ok 94 := by rw [lenS_ok (by omega), hBl]; rfl
  unfold t_law_alphabet
  rw [hB]
  simp only [TR.bind_ok]
  rw [rng1_ok (by omega)]
  simp only [TR.bind_ok]
  obtain ⟨s, e1, cs, e2, e3, e4, e5, e6⟩ := forT_inv (L := Empty) (step := t_law_alphabet_l0 ns 4 B) (fun i s => ∃ cs : List Nat, s = cs.map one ∧ cs.Nodup ∧ cs.length ≤ i ∧ (0 < i → cs ≠ []) ∧ ∀ c ∈ cs, 32 ≤ c ∧ c ≤ 126) (xs := rangeI 0 many.toNat) (a := []) 0 (fun i x s hx hs => by
    obtain ⟨hi, ex⟩ := rangeI_get hx
    obtain ⟨cs, rfl, c1, c2, c3, c4⟩ := hs
    obtain ⟨v, hv, v0, v1⟩ := num_at hn (k := 4 + x) (by omega) (by omega)
    have hm : modT v 94 = .ok (v % 94) := modT_ok (by decide)
    have hb0 := Int.emod_nonneg v (show (94 : Int) ≠ 0 by decide)
    have hb1 := Int.emod_lt_of_pos v (show (0 : Int) < 94 by decide)
    have hk : (v % 94).toNat < (tl B).length := by have : (tl B).length = 94 := hBl; omega
    have hix : idxS B (v % 94) = .ok (one (tl B)[(v % 94).toNat]) := by
      have := idxS_ok (s := B) (i := (v % 94).toNat) (by omega) (List.getElem?_eq_getElem hk)
      rwa [show (((v % 94).toNat : Nat) : Int) = v % 94 by omega] at this
    have hc := hBr _ (List.getElem_mem hk)
    generalize (tl B)[(v % 94).toNat] = c at hix hc
    by_cases hin : c ∈ cs
    · refine ⟨cs.map one, .inl ?_, cs, rfl, c1, by omega, fun _ => List.ne_nil_of_mem hin, c4⟩
      have hcn : (cs.map one).contains (one c) = true := by rw [contains_one]; exact decide_eq_true hin
      simp only [t_law_alphabet_l0, hv, hlen, hm, hix, TR.bind_ok, TR.bind_pure, hcn]; rfl
    · refine ⟨(cs ++ [c]).map one, .inl ?_, cs ++ [c], rfl, ?_, by simp; omega, by simp, ?_⟩
      · have hap : appT (cs.map one) (one c) = .ok (cs.map one ++ [one c]) := appT_ok (by simp; omega)
        have hcn : (cs.map one).contains (one c) = false := by rw [contains_one]; exact decide_eq_false hin
        simp only [t_law_alphabet_l0, hv, hlen, hm, hix, TR.bind_ok, TR.bind_pure, hcn, hap, List.map_append]; rfl
      · rw [List.nodup_append]
        refine ⟨c1, by simp, fun a ha b hb => ?_⟩
        simp at hb; subst hb
        exact fun e => hin (e ▸ ha)
      · intro d m
        rcases List.mem_append.mp m with m | m
        · exact c4 d m
        · simp at m; subst m; exact hc) ⟨[], rfl, by simp, by simp, by simp, by simp⟩
  rw [e1]
  subst e2
  simp only [rangeI_len] at e4 e5
  have hlt : cs.length < 64 := by omega
  simp only [seq_nx, sortT_ones hlt, TR.bind_ok]
  have hp := (List.mergeSort_perm cs fun a b => decide (a ≤ b)).length_eq
  rw [joinT_ones (by omega)]
  simp only [TR.bind_ok, fin_rt, TR.sat_ok]
  exact Alph.of_sort e3 (e5 (by omega)) (by omega) e6
/-! is_alphabet -/
theorem leS_one (a b : Nat) : leS (one a) (one b) = decide (a ≤ b) := by
  unfold leS
  rw [show (one a).cps.toList = [a] from rfl, show (one b).cps.toList = [b] from rfl]
  by_cases h : a ≤ b
  · have : ¬ ([b] < [a]) := by rw [List.cons_lt_cons_iff]; simp; omega
    simp [h, this]
  · have : [b] < [a] := by rw [List.cons_lt_cons_iff]; left; omega
    simp [h, this]
theorem getD_lt {α : Type} {l : List α} {i : Nat} {d : α} (h : i < l.length) : l.getD i d = l[i] := by rw [List.getD_eq_getElem?_getD, List.getElem?_eq_getElem h]; rfl
theorem sp_one : Str.ofString " " = one 32 := by decide
theorem tilde_one : Str.ofString "~" = one 126 := by decide
theorem t_is_alphabet_eq (s : Str) (hl : s.length ≤ 1000) : t_is_alphabet s = .ok (isA s) := by
  have hsz := sizeL
  have h0 : forT (L := Empty) t_is_alphabet_l0 (signs s) () = if (signs s).any (fun x => !(leS (Str.ofString " ") x && leS x (Str.ofString "~"))) = true then .ok (.rt false) else .ok (.nx ()) := forT_any fun x _ => rfl
  have e0 : (signs s).any (fun x => !(leS (Str.ofString " ") x && leS x (Str.ofString "~"))) = !((tl s).all fun c => decide (32 ≤ c) && decide (c ≤ 126)) := by
    rw [signs_eq, List.any_map, List.all_eq_not_any_not, Bool.not_not]
    congr 1
    funext c
    simp only [Function.comp, sp_one, tilde_one, leS_one]
  have h1 : forT (L := Empty) (t_is_alphabet_l1 s) (rangeI 1 ((s.length : Int) - 1).toNat) () = if (rangeI 1 ((s.length : Int) - 1).toNat).any (fun x => decide ((tl s).getD x.toNat 0 ≤ (tl s).getD (x - 1).toNat 0)) = true then .ok (.rt false) else .ok (.nx ()) := forT_any fun x m => by
    obtain ⟨i, hi, rfl⟩ := rangeI_mem m
    have l1 : i < (tl s).length := by rw [← len_tl]; omega
    have l2 : i + 1 < (tl s).length := by rw [← len_tl]; omega
    have g1 := idxS_ok (s := s) (i := i) (by omega) (List.getElem?_eq_getElem l1)
    have g2 := idxS_ok (s := s) (i := i + 1) (by omega) (List.getElem?_eq_getElem l2)
    unfold t_is_alphabet_l1
    rw [show (1 : Int) + (i : Int) - 1 = (i : Int) by omega, g1, show (1 : Int) + (i : Int) = ((i + 1 : Nat) : Int) by omega, g2]
    have q1 : (tl s).getD (((i + 1 : Nat) : Int)).toNat 0 = (tl s)[i + 1] := by rw [Int.toNat_natCast]; exact getD_lt l2
    have q2 : (tl s).getD ((i : Nat) : Int).toNat 0 = (tl s)[i] := by rw [Int.toNat_natCast]; exact getD_lt l1
    simp only [TR.bind_ok, leS_one, q1, q2]
  have e1 : (rangeI 1 ((s.length : Int) - 1).toNat).any (fun x => decide ((tl s).getD x.toNat 0 ≤ (tl s).getD (x - 1).toNat 0)) = !ascB (tl s) := by
    rw [Bool.eq_iff_iff, List.any_eq_true, Bool.not_eq_true', ← Bool.not_eq_true, ascB_iff]
    constructor
    · rintro ⟨x, m, hx⟩ h
      obtain ⟨i, hi, rfl⟩ := rangeI_mem m
      have l1 : i < (tl s).length := by rw [← len_tl]; omega
      have l2 : i + 1 < (tl s).length := by rw [← len_tl]; omega
      have := h i _ _ (List.getElem?_eq_getElem l1) (List.getElem?_eq_getElem l2)
      have hx := of_decide_eq_true hx
      rw [show ((1 : Int) + (i : Int)).toNat = i + 1 by omega, show ((1 : Int) + (i : Int) - 1).toNat = i by omega, getD_lt l2, getD_lt l1] at hx
      omega
    · intro h
      apply Classical.byContradiction
      intro hn
      refine h fun i a b ha hb => ?_
      obtain ⟨l1, rfl⟩ := List.getElem?_eq_some_iff.mp ha
      obtain ⟨l2, rfl⟩ := List.getElem?_eq_some_iff.mp hb
      apply Classical.byContradiction
      intro hlt
      refine hn ⟨1 + (i : Int), ?_, decide_eq_true ?_⟩
      · unfold rangeI
        exact List.mem_map.mpr ⟨i, List.mem_range.mpr (by have := len_tl s; omega), rfl⟩
      · rw [show ((1 : Int) + (i : Int)).toNat = i + 1 by omega, show ((1 : Int) + (i : Int) - 1).toNat = i by omega, getD_lt l2, getD_lt l1]
        omega
  unfold t_is_alphabet isA
  have hr := rng2_ok (i := 1) (j := (s.length : Int)) (by decide) (by omega)
  simp only [lenS_ok (show s.length ≤ sizeLine by omega), TR.bind_ok, TR.bind_pure, hr, h0, e0, h1, e1]
  by_cases c1 : 1 ≤ s.length
  · by_cases c2 : s.length ≤ 30
    · have d1 : decide ((1 : Int) ≤ (s.length : Int)) = true := decide_eq_true (by omega)
      have d2 : decide ((s.length : Int) ≤ 30) = true := decide_eq_true (by omega)
      rw [d1, d2, decide_eq_true c1, decide_eq_true c2]
      cases ((tl s).all fun c => decide (32 ≤ c) && decide (c ≤ 126)) <;> cases ascB (tl s) <;> rfl
    · have d2 : decide ((s.length : Int) ≤ 30) = false := decide_eq_false (by omega)
      rw [d2, decide_eq_false c2]
      simp
  · have d1 : decide ((1 : Int) ≤ (s.length : Int)) = false := decide_eq_false (by omega)
    rw [d1, decide_eq_false c1]
    simp
theorem t_checked_alphabet_eq (s : Str) (hl : s.length ≤ 1000) : t_checked_alphabet s = if isA s = true then .ok s else .err "InvalidAlphabet" [("alphabet", .str s)] := by
  unfold t_checked_alphabet
  rw [t_is_alphabet_eq s hl]
  cases isA s <;> rfl
end DL
namespace DL
open PySem PySem.Spec L2
/-! dicts -/
section
variable {κ α : Type} [DecidableEq κ]
theorem tput_new {kvs : List (κ × α)} {k : κ} {v : α} (h : ∀ p ∈ kvs, p.1 ≠ k) : tput kvs k v = kvs ++ [(k, v)] := by
  unfold tput
  rw [if_neg]
  rw [List.any_eq_true]
  rintro ⟨p, m, e⟩
  exact h p m (of_decide_eq_true e)
theorem tval_map_ne {k k' : κ} {v : α} (h : k' ≠ k) (kvs : List (κ × α)) : tval (kvs.map (fun kv => if kv.1 = k' then (kv.1, v) else kv)) k = tval kvs k := by
    unfold tval
    induction kvs with
    | nil => rfl
    | cons p ps ih =>
      simp only [List.map_cons, List.find?_cons]
      by_cases e : p.1 = k'
      · have : ¬ p.1 = k := fun q => h (by rw [← e, q])
        have h2 : ¬ k' = k := h
        simp only [e, if_true, h2, decide_false]
        exact ih
      · simp only [e, if_false]
        by_cases e2 : p.1 = k
        · simp [e2]
        · simp only [e2, decide_false]; exact ih
theorem tval_put_ne {kvs : List (κ × α)} {k k' : κ} {v : α} (h : k' ≠ k) : tval (tput kvs k' v) k = tval kvs k := by
  unfold tput
  split
  · exact tval_map_ne h kvs
  · unfold tval
    rw [List.find?_append]
    have : ([(k', v)].find? fun kv => decide (kv.1 = k)) = none := by simp [h]
    rw [this]; simp
theorem tput_len {kvs : List (κ × α)} {k : κ} {v : α} : (tput kvs k v).length ≤ kvs.length + 1 := by
  unfold tput; split <;> simp
theorem tval_mem : ∀ {kvs : List (κ × α)} {k : κ} {a : α}, (kvs.map (·.1)).Nodup → (k, a) ∈ kvs → tval kvs k = some a
  | [], k, a, _, h => by cases h
  | p :: ps, k, a, hn, h => by
    unfold tval
    rw [List.find?_cons]
    rw [List.map_cons, List.nodup_cons] at hn
    rcases List.mem_cons.mp h with rfl | m
    · simp
    · have : p.1 ≠ k := fun e => hn.1 (by rw [e]; exact List.mem_map.mpr ⟨_, m, rfl⟩)
      simp only [this, decide_false]
      exact tval_mem hn.2 m
theorem dcS_new {β : Type} {k : β → κ} {v : β → α} : ∀ {xs : List β} {acc : List (κ × α)}, (acc.map (·.1) ++ xs.map k).Nodup → dcS k v xs acc = acc ++ xs.map fun x => (k x, v x)
  | [], acc, _ => by simp [dcS]
  | x :: xs, acc, h => by
    have hx : ∀ p ∈ acc, p.1 ≠ k x := fun p m e => by
      have := (List.nodup_append.mp h).2.2 p.1 (List.mem_map.mpr ⟨p, m, rfl⟩) (k x) (by simp)
      exact this e
    rw [dcS, tput_new hx, dcS_new (by simpa using h)]
    simp
end
theorem enumT_get {α : Type} {xs : List α} {i : Nat} {x : α} (h : xs[i]? = some x) : ((i : Int), x) ∈ enumT xs := by
  obtain ⟨hi, e⟩ := List.getElem?_eq_some_iff.mp h
  unfold enumT
  refine List.mem_iff_getElem?.mpr ⟨i, ?_⟩
  rw [List.getElem?_zipWith, List.getElem?_range hi, h]
theorem enumT_snd {α : Type} (xs : List α) : (enumT xs).map (·.2) = xs := by
  unfold enumT
  rw [List.map_zipWith]
  refine List.ext_getElem (by simp) fun i h1 h2 => ?_
  simp
theorem letters_dict {A : Str} (hA : Alph A) : ∃ kvs : List (Str × Int), dcT (fun (x : Int × Str) => x.2) (fun (x : Int × Str) => x.1) (enumT (signs A)) = .ok kvs ∧ kvs.length ≤ 30 ∧ ∀ c ∈ tl A, tval kvs (one c) = some (((tl A).idxOf c : Nat) : Int) := by
  have hk : (enumT (signs A)).map (fun (x : Int × Str) => x.2) = signs A := enumT_snd _
  have hn : (signs A).Nodup := by
    rw [signs_eq]
    exact List.Pairwise.map _ (fun a b h e => h (one_inj e)) hA.nodup
  have hl : (enumT (signs A)).length = A.length := by
    have := congrArg List.length hk
    rw [List.length_map] at this
    rw [this, signs_eq, List.length_map]; rfl
  refine ⟨(enumT (signs A)).map fun x => (x.2, x.1), ?_, ?_, ?_⟩
  · unfold dcT
    rw [dcS_new (by simpa using (by rw [hk]; exact hn : ((enumT (signs A)).map (fun (x : Int × Str) => x.2)).Nodup))]
    have := sizeL; have := hA.le
    exact TR.guard_of (decide_eq_true (by omega)) _
  · have := hA.le; simp; omega
  · intro c m
    have hi : (tl A).idxOf c < (tl A).length := List.idxOf_lt_length_iff.mpr m
    have hg : (signs A)[(tl A).idxOf c]? = some (one c) := by
      rw [signs_eq, List.getElem?_map, List.getElem?_eq_getElem hi, List.getElem_idxOf hi]; rfl
    refine tval_mem ?_ ?_
    · rw [List.map_map]; exact (by rw [hk]; exact hn : ((enumT (signs A)).map (fun (x : Int × Str) => x.2)).Nodup)
    · exact List.mem_map.mpr ⟨_, enumT_get hg, rfl⟩
/-! a pair is proper -/
abbrev nilS : Str := ⟨#[]⟩
def cat (texts : List Str) (q : Int × Int) : Str := texts.getD q.1.toNat nilS ++ texts.getD q.2.toNat nilS
def lettersI (A t : Str) : List Int := (tl t).map fun c => (((tl A).idxOf c : Nat) : Int)
def TextsOK (A : Str) (texts : List Str) : Prop := ∀ t ∈ texts, t.length ≤ 40 ∧ ∀ c ∈ tl t, c ∈ tl A
def inR (texts : List Str) (i : Int) : Bool := decide (0 ≤ i) && decide (i < (texts.length : Int))
def properB (A : Str) (texts : List Str) (ps : List (Int × Int)) (q : Int × Int) : Bool := inR texts q.1 && inR texts q.2 && decide ((cat texts q).length ≤ 40) && decide (stGo A.length 0 ps (lettersI A (cat texts q)) = [q.1, q.2])
theorem inR_iff {texts : List Str} {i : Int} : inR texts i = true ↔ 0 ≤ i ∧ i < (texts.length : Int) := by unfold inR; simp
theorem inR_get {texts : List Str} {i : Int} (h : inR texts i = true) : idx texts i = .ok (texts.getD i.toNat nilS) ∧ texts.getD i.toNat nilS ∈ texts := by
  obtain ⟨h0, h1⟩ := inR_iff.mp h
  have hk : i.toNat < texts.length := by omega
  rw [getD_lt hk]
  exact ⟨idx_at hk (by omega), List.getElem_mem _⟩
theorem cat_ok {A : Str} {texts : List Str} (hT : TextsOK A texts) {q : Int × Int} (h1 : inR texts q.1 = true) (h2 : inR texts q.2 = true) : (cat texts q).length ≤ 80 ∧ ∀ c ∈ tl (cat texts q), c ∈ tl A := by
  obtain ⟨_, m1⟩ := inR_get h1
  obtain ⟨_, m2⟩ := inR_get h2
  obtain ⟨a1, a2⟩ := hT _ m1
  obtain ⟨b1, b2⟩ := hT _ m2
  unfold cat
  rw [app_len, app_tl]
  exact ⟨by omega, fun c m => by rcases List.mem_append.mp m with m | m; exact a2 c m; exact b2 c m⟩
theorem cat_text {A : Str} {texts : List Str} (hT : TextsOK A texts) {q : Int × Int} (h1 : inR texts q.1 = true) (h2 : inR texts q.2 = true) : ((idx texts q.1).bind fun a => (idx texts q.2).bind fun b => addS a b) = .ok (cat texts q) := by
  obtain ⟨e1, m1⟩ := inR_get h1
  obtain ⟨e2, m2⟩ := inR_get h2
  have a1 := (hT _ m1).1
  have b1 := (hT _ m2).1
  rw [e1, TR.bind_ok, e2, TR.bind_ok]
  exact addS_ok (by have := sizeL; omega)
theorem t_law_letters_eq {A t : Str} (hA : Alph A) (hl : t.length ≤ 1000) (ht : ∀ c ∈ tl t, c ∈ tl A) : t_law_letters A t = .ok (lettersI A t) := by
  have hsz := sizeL
  have : lc1 (fun (x : Str) => .ok true) (fun x => indexT A x) (signs t) = .ok ((signs t).map fun x => (((tl A).idxOf ((tl x).headD 0) : Nat) : Int)) := by
    refine lc1_map ?_ (fun x _ => rfl) fun x m => ?_
    · rw [signs_eq, List.length_map, ← len_tl]; omega
    · rw [signs_eq] at m
      obtain ⟨c, hc, rfl⟩ := List.mem_map.mp m
      exact indexT_one hA.nodup (ht c hc)
  unfold t_law_letters
  rw [this, signs_eq, List.map_map]
  rfl
theorem lettersI_len (A t : Str) : (lettersI A t).length = t.length := by unfold lettersI; rw [List.length_map]; rfl
theorem t_law_is_proper_eq {A : Str} {texts : List Str} {ps : List (Int × Int)} (hA : Alph A) (hT : TextsOK A texts) (hps : ps.length ≤ 1000) (q : Int × Int) : t_law_is_proper A texts ps q = .ok (properB A texts ps q) := by
  have hsz := sizeL
  have h0 : forT (L := Empty) (t_law_is_proper_l0 texts) [q.1, q.2] () = if ([q.1, q.2] : List Int).any (fun x => !inR texts x) = true then .ok (.rt false) else .ok (.nx ()) := forT_any fun x _ => rfl
  unfold t_law_is_proper properB
  rw [h0]
  simp only [List.any_cons, List.any_nil, Bool.or_false]
  cases h1 : inR texts q.1 with
  | false => rfl
  | true =>
    cases h2 : inR texts q.2 with
    | false => rfl
    | true =>
      obtain ⟨c1, c2⟩ := cat_ok hT h1 h2
      simp only [Bool.not_true, Bool.or_false, Bool.false_eq_true, if_false, seq_nx, cat_text hT h1 h2, TR.bind_ok, lenS_ok (show (cat texts q).length ≤ sizeLine by omega)]
      by_cases h3 : (cat texts q).length ≤ 40
      · have hs := t_law_staged_eq A.length ps (lettersI A (cat texts q)) (by rw [lettersI_len]; omega) (by omega)
        have d : decide ((40 : Int) < ((cat texts q).length : Int)) = false := decide_eq_false (by omega)
        simp only [d, Bool.false_eq_true, if_false, lenS_ok (show A.length ≤ sizeLine by have := hA.le; omega), TR.bind_ok, t_law_letters_eq hA (by omega) c2, hs, fin_rt, decide_eq_true h3, Bool.true_and]
      · have d : decide ((40 : Int) < ((cat texts q).length : Int)) = true := decide_eq_true (by omega)
        simp only [d, if_true, fin_rt, decide_eq_false h3, Bool.and_false, Bool.false_and]
theorem properB_iff {A : Str} {texts : List Str} {ps : List (Int × Int)} {q : Int × Int} : properB A texts ps q = true ↔ inR texts q.1 = true ∧ inR texts q.2 = true ∧ (cat texts q).length ≤ 40 ∧ stGo A.length 0 ps (lettersI A (cat texts q)) = [q.1, q.2] := by
  unfold properB; simp [and_assoc]
theorem texts_app {A : Str} {texts : List Str} {ps : List (Int × Int)} {q : Int × Int} (hT : TextsOK A texts) (h : properB A texts ps q = true) : TextsOK A (texts ++ [cat texts q]) := by
  obtain ⟨h1, h2, h3, _⟩ := properB_iff.mp h
  intro t m
  rcases List.mem_append.mp m with m | m
  · exact hT t m
  · simp at m; subst m; exact ⟨h3, (cat_ok hT h1 h2).2⟩
theorem signs_ok {A : Str} : TextsOK A (signs A) := fun t m => by
  rw [signs_eq] at m
  obtain ⟨c, hc, rfl⟩ := List.mem_map.mp m
  exact ⟨by show 1 ≤ 40; omega, fun d hd => by simp [one_tl] at hd; subst hd; exact hc⟩
theorem signs_len (A : Str) : (signs A).length = A.length := by rw [signs_eq, List.length_map]; rfl
/-! the first pair that is not proper -/
def dueGo (A : Str) : List Str → List (Int × Int) → List (Int × Int) → Nat → Option Nat
  | _, _, [], _ => none
  | texts, done, q :: r, k => if properB A texts done q = true then dueGo A (texts ++ [cat texts q]) (done ++ [q]) r (k + 1) else some k
theorem cutL_to {α : Type} (xs : List α) (k : Nat) (h : k ≤ xs.length) : cutL xs none (some (k : Int)) = xs.take k := by
  unfold cutL
  rw [HT.sIx_none, HT.sIx_nat]
  simp [Nat.min_eq_left h]
theorem rangeI_succ (lo : Int) (n : Nat) : rangeI lo (n + 1) = lo :: rangeI (lo + 1) n := by
  unfold rangeI
  rw [List.range_succ_eq_map, List.map_cons, List.map_map]
  congr 1
  · simp
  · apply List.map_congr_left
    intro i _
    simp only [Function.comp]
    omega
theorem due_go {A : Str} (hA : Alph A) {ps : List (Int × Int)} (hl : ps.length ≤ 1000) : ∀ (n k : Nat) (texts : List Str), k + n = ps.length → TextsOK A texts → texts.length ≤ 100 + k →
    match dueGo A texts (ps.take k) (ps.drop k) k with
    | none => ∃ t', forT (L := Empty) (t_law_due_l0 A ps) (rangeI k n) texts = .ok (.nx t')
    | some r => forT (L := Empty) (t_law_due_l0 A ps) (rangeI k n) texts = .ok (.rt (some (r : Int))) := by
  intro n
  induction n with
  | zero =>
    intro k texts hk hT _
    rw [List.drop_eq_nil_of_le (by omega)]
    exact ⟨texts, rfl⟩
  | succ n ih =>
    intro k texts hk hT hL
    have hk' : k < ps.length := by omega
    have gx := idx_at hk' (rfl : ((k : Nat) : Int) = _)
    have hp := t_law_is_proper_eq hA hT (ps := ps.take k) (by rw [List.length_take]; omega) ps[k]
    rw [List.drop_eq_getElem_cons hk', dueGo, rangeI_succ, forT_cons]
    cases hb : properB A texts (ps.take k) ps[k] with
    | false =>
      rw [hb] at hp
      have e : t_law_due_l0 A ps (k : Int) texts = .ok (.rt (some (k : Int))) := by
        simp only [t_law_due_l0, gx, TR.bind_ok, TR.bind_pure, cutL_to ps k (by omega), hp]; rfl
      simp only [e, Bool.false_eq_true, if_false]
    | true =>
      rw [hb] at hp
      obtain ⟨h1, h2, h3, _⟩ := properB_iff.mp hb
      have hap : appT texts (cat texts ps[k]) = .ok (texts ++ [cat texts ps[k]]) := appT_ok (by have := sizeL; omega)
      have e : t_law_due_l0 A ps (k : Int) texts = .ok (.nx (texts ++ [cat texts ps[k]])) := by
        simp only [t_law_due_l0, gx, TR.bind_ok, TR.bind_pure, cutL_to ps k (by omega), hp, cat_text hT h1 h2, hap]; rfl
      have := ih (k + 1) (texts ++ [cat texts ps[k]]) (by omega) (texts_app hT hb) (by simp; omega)
      rw [show ps.take k ++ [ps[k]] = ps.take (k + 1) by rw [List.take_succ, List.getElem?_eq_getElem hk']; rfl]
      simp only [e, if_true]
      rw [show ((k : Int) + 1) = ((k + 1 : Nat) : Int) by omega]
      exact this
theorem t_law_due_eq {A : Str} (hA : Alph A) {ps : List (Int × Int)} (hl : ps.length ≤ 1000) : t_law_due A ps = .ok ((dueGo A (signs A) [] ps 0).map fun r : Nat => (r : Int)) := by
  have hsz := sizeL
  have h := due_go hA hl ps.length 0 (signs A) (by omega) signs_ok (by have := hA.le; rw [signs_len]; omega)
  simp only [List.take_zero, List.drop_zero] at h
  unfold t_law_due
  rw [listS_ok (by have := hA.le; omega), TR.bind_ok, rng1_nat (by omega), TR.bind_ok]
  cases e : dueGo A (signs A) [] ps 0 with
  | none =>
    rw [e] at h
    obtain ⟨t', h⟩ := h
    have h : forT (L := Empty) (t_law_due_l0 A ps) (rangeI 0 ps.length) (signs A) = .ok (.nx t') := h
    rw [h]; rfl
  | some r =>
    rw [e] at h
    have h : forT (L := Empty) (t_law_due_l0 A ps) (rangeI 0 ps.length) (signs A) = .ok (.rt (some (r : Int))) := h
    rw [h]; rfl
/-! the object -/
structure JInv (A : Str) (texts : List Str) (done : List (Int × Int)) (o : O_Joins) : Prop where
  al : o.alphabet = A
  ps : o.pairs = done
  tx : o.texts = texts
  rk : o.ranks = rkT 0 done
  nm : ∀ c ∈ tl A, tval o.numbers (one c) = some (((tl A).idxOf c : Nat) : Int)
  nl : o.numbers.length ≤ 30 + done.length
  wf : WFp A.length done
  tl' : texts.length = A.length + done.length
  ok : TextsOK A texts
  ne : ∀ t ∈ texts, 1 ≤ t.length
theorem between_eq (v a b : Int) : t_is_between v a b = .ok (decide (a ≤ v) && decide (v ≤ b)) := by
  unfold t_is_between; rfl
theorem t_Joins_is_proper_eq {A : Str} {texts : List Str} {done : List (Int × Int)} {o : O_Joins} (hA : Alph A) (J : JInv A texts done o) (q : Int × Int) : t_Joins_is_proper o q = .ok (properB A texts done q) ∧ (properB A texts done q = true → q ∉ done) := by
  have hsz := sizeL
  have r : ∀ i : Int, (decide (0 ≤ i) && decide (i ≤ (o.texts.length : Int) - 1)) = inR texts i := fun i => by
    unfold inR
    rw [J.tx]
    congr 1
    rw [decide_eq_decide]; omega
  have hnot : properB A texts done q = true → q ∉ done := fun hb m => by
    obtain ⟨h1, h2, h3, h4⟩ := properB_iff.mp hb
    have := (t_cut_row_eq A.length done (lettersI A (cat texts q)) J.wf (by rw [lettersI_len]; omega)).2 q m
    rw [h4] at this
    exact this ⟨0, rfl, rfl⟩
  refine ⟨?_, hnot⟩
  unfold t_Joins_is_proper
  simp only [TR.bind_ok, between_eq, r]
  unfold properB
  cases h1 : inR texts q.1 with
  | false => rfl
  | true =>
    cases h2 : inR texts q.2 with
    | false => rfl
    | true =>
      obtain ⟨c1, c2⟩ := cat_ok J.ok h1 h2
      simp only [Bool.not_true, orT_false, TR.bind_ok, Bool.false_eq_true, if_false, J.tx, cat_text J.ok h1 h2, lenS_ok (show (cat texts q).length ≤ sizeLine by omega)]
      by_cases h3 : (cat texts q).length ≤ 40
      · have d : decide ((40 : Int) < ((cat texts q).length : Int)) = false := decide_eq_false (by omega)
        have hrow : lc1 (fun (x : Str) => .ok true) (fun (x : Str) => dget o.numbers x) (signs (cat texts q)) = .ok (lettersI A (cat texts q)) := by
          have : lc1 (fun (x : Str) => .ok true) (fun (x : Str) => dget o.numbers x) (signs (cat texts q)) = .ok ((signs (cat texts q)).map fun x => (((tl A).idxOf ((tl x).headD 0) : Nat) : Int)) := by
            refine lc1_map ?_ (fun x _ => rfl) fun x m => ?_
            · rw [signs_len]; omega
            · rw [signs_eq] at m
              obtain ⟨c, hc, rfl⟩ := List.mem_map.mp m
              unfold dget
              rw [J.nm c (c2 c hc)]; rfl
          rw [this, signs_eq, List.map_map]; rfl
        have hc := (t_cut_row_eq A.length done (lettersI A (cat texts q)) J.wf (by rw [lettersI_len]; omega)).1
        simp only [d, Bool.false_eq_true, if_false, hrow, TR.bind_ok, J.al, lenS_ok (show A.length ≤ sizeLine by have := hA.le; omega), J.rk, hc, fin_rt, decide_eq_true h3, Bool.true_and]
      · have d : decide ((40 : Int) < ((cat texts q).length : Int)) = true := decide_eq_true (by omega)
        simp only [d, if_true, fin_rt, decide_eq_false h3, Bool.and_false, Bool.false_and]
theorem wf_snoc {n : Nat} {done : List (Int × Int)} {q : Int × Int} (h : WFp n done) (h1 : q.1 < (n : Int) + (done.length : Int)) (h2 : q.2 < (n : Int) + (done.length : Int)) (hn : q ∉ done) : WFp n (done ++ [q]) := by
  refine ⟨fun k a b hk => ?_, ?_⟩
  · by_cases hlt : k < done.length
    · rw [List.getElem?_append_left hlt] at hk; exact h.1 k a b hk
    · rw [List.getElem?_append_right (by omega)] at hk
      have : k - done.length = 0 := by
        by_cases e : k - done.length = 0
        · exact e
        · rw [List.getElem?_eq_none (by simp; omega)] at hk; cases hk
      rw [this] at hk
      simp at hk
      rw [hk] at h1 h2
      have : k = done.length := by omega
      subst this
      exact ⟨h1, h2⟩
  · rw [List.nodup_append]
    exact ⟨h.2, by simp, fun a ha b hb => by simp at hb; subst hb; exact fun e => hn (e ▸ ha)⟩
theorem t_Joins_take_eq {A : Str} {texts : List Str} {done : List (Int × Int)} {o : O_Joins} (hA : Alph A) (J : JInv A texts done o) (hd : done.length ≤ 1000) (q : Int × Int) :
    if properB A texts done q = true then ∃ o', t_Joins_take o q = .ok ((), o') ∧ JInv A (texts ++ [cat texts q]) (done ++ [q]) o' else t_Joins_take o q = .err "NotProper" [("rank", .int done.length)] := by
  have hsz := sizeL
  obtain ⟨hp, hnot⟩ := t_Joins_is_proper_eq hA J q
  cases hb : properB A texts done q with
  | false =>
    rw [hb] at hp
    simp only [Bool.false_eq_true, if_false]
    unfold t_Joins_take
    simp only [TR.bind_ok, hp, Bool.not_false, if_true, J.ps]; rfl
  | true =>
    rw [hb] at hp
    rw [if_pos rfl]
    obtain ⟨h1, h2, h3, h4⟩ := properB_iff.mp hb
    obtain ⟨c1, c2⟩ := cat_ok J.ok h1 h2
    have hal := hA.le
    have a1 : addT done [q] = .ok (done ++ [q]) := addT_ok (by simp; omega)
    have a2 : dputT o.numbers (cat texts q) (texts.length : Int) = .ok (tput o.numbers (cat texts q) (texts.length : Int)) := dputT_ok (by have := J.nl; omega)
    have a3 : appT texts (cat texts q) = .ok (texts ++ [cat texts q]) := appT_ok (by have := J.tl'; omega)
    have a4 : dputT (rkT 0 done) q (done.length : Int) = .ok (rkT 0 (done ++ [q])) := by
      rw [dputT_ok (by rw [rkT_len]; omega)]
      have := tput_rk q 0 done (hnot hb)
      rw [Nat.zero_add] at this
      rw [this]
    have hlen : 2 ≤ (cat texts q).length := by
      obtain ⟨_, m1⟩ := inR_get h1
      obtain ⟨_, m2⟩ := inR_get h2
      have := J.ne _ m1; have := J.ne _ m2
      unfold cat; rw [app_len]; omega
    have g1 := inR_iff.mp h1
    have g2 := inR_iff.mp h2
    refine ⟨{ alphabet := A, pairs := done ++ [q], texts := texts ++ [cat texts q], ranks := rkT 0 (done ++ [q]), numbers := tput o.numbers (cat texts q) (texts.length : Int), longest := if ((cat texts q).length : Int) > o.longest then ((cat texts q).length : Int) else o.longest }, ?_, ?_⟩
    · unfold t_Joins_take
      simp only [TR.bind_ok, hp, Bool.not_true, Bool.false_eq_true, if_false, J.tx, cat_text J.ok h1 h2, a1, a2, a3, J.rk, J.ps, a4, lenS_ok (show (cat texts q).length ≤ sizeLine by omega), finN_nx, J.al]
    · exact {
        al := rfl
        ps := rfl
        tx := rfl
        rk := rfl
        nm := fun c m => by
          have hne : cat texts q ≠ one c := fun e => by rw [e] at hlen; have : (one c).length = 1 := rfl; omega
          show tval (tput o.numbers (cat texts q) (texts.length : Int)) (one c) = _
          rw [tval_put_ne hne]; exact J.nm c m
        nl := by
          have := tput_len (kvs := o.numbers) (k := cat texts q) (v := (texts.length : Int)); have := J.nl
          show (tput o.numbers (cat texts q) (texts.length : Int)).length ≤ _
          simp; omega
        wf := wf_snoc J.wf (by have := J.tl'; omega) (by have := J.tl'; omega) (hnot hb)
        tl' := by have := J.tl'; simp; omega
        ok := texts_app J.ok hb
        ne := fun t m => by
          rcases List.mem_append.mp m with m | m
          · exact J.ne t m
          · simp at m; subst m; omega }
theorem joins_go {A : Str} (hA : Alph A) : ∀ (rest : List (Int × Int)) (texts : List Str) (done : List (Int × Int)) (o : O_Joins), JInv A texts done o → done.length + rest.length ≤ 1000 →
    match dueGo A texts done rest done.length with
    | none => ∃ o', forT (L := Empty) t_Joins_init_l0 rest o = .ok (.nx o') ∧ o'.pairs = done ++ rest
    | some r => forT (L := Empty) t_Joins_init_l0 rest o = .err "NotProper" [("rank", .int r)]
  | [], texts, done, o, J, _ => ⟨o, rfl, by rw [J.ps]; simp⟩
  | q :: rest, texts, done, o, J, hl => by
    have h := t_Joins_take_eq hA J (by simp at hl; omega) q
    rw [dueGo, forT_cons]
    cases hb : properB A texts done q with
    | false =>
      rw [hb] at h
      simp only [Bool.false_eq_true, if_false] at h ⊢
      simp only [t_Joins_init_l0, h, TR.bind_err]
    | true =>
      rw [hb, if_pos rfl] at h
      obtain ⟨o', e, J'⟩ := h
      have ih := joins_go hA rest _ _ o' J' (by simp at hl ⊢; omega)
      simp only [if_true, t_Joins_init_l0, e, TR.bind_ok]
      rw [show (done ++ [q]).length = done.length + 1 by simp] at ih
      simpa using ih
theorem t_Joins_init_eq {A : Str} (hA : Alph A) (b : Bool) (ps : List (Int × Int)) (hl : ps.length ≤ 1000) :
    match dueGo A (signs A) [] ps 0 with
    | none => ∃ o, t_Joins_init A (b, ps) = .ok o ∧ o.pairs = ps
    | some r => t_Joins_init A (b, ps) = .err "NotProper" [("rank", .int r)] := by
  have hsz := sizeL
  have hal := hA.le
  obtain ⟨kvs, d1, d2, d3⟩ := letters_dict hA
  have J0 : JInv A (signs A) [] { alphabet := A, pairs := [], texts := signs A, ranks := [], numbers := kvs, longest := 1 } := {
    al := rfl, ps := rfl, tx := rfl, rk := rfl, nm := d3, nl := by simpa using d2
    wf := ⟨fun k a b h => by simp at h, by simp⟩
    tl' := by rw [signs_len]; simp
    ok := signs_ok
    ne := fun t m => by rw [signs_eq] at m; obtain ⟨c, _, rfl⟩ := List.mem_map.mp m; exact Nat.le_refl 1 }
  have h := joins_go hA ps _ _ _ J0 (by simpa using hl)
  have hca : t_checked_alphabet A = .ok A := by rw [t_checked_alphabet_eq A (by omega), if_pos hA.isA]
  unfold t_Joins_init
  rw [hca]
  simp only [TR.bind_ok, listS_ok (show A.length ≤ sizeLine by omega), d1]
  simp only [List.length_nil] at h
  cases e : dueGo A (signs A) [] ps 0 with
  | none =>
    rw [e] at h
    obtain ⟨o', h1, h2⟩ := h
    refine ⟨o', ?_, by simpa using h2⟩
    have h1 : forT (L := Empty) t_Joins_init_l0 ps _ = .ok (.nx o') := h1
    rw [h1]; rfl
  | some r =>
    rw [e] at h
    have h : forT (L := Empty) t_Joins_init_l0 ps _ = .err "NotProper" [("rank", .int r)] := h
    rw [h]; rfl
theorem t_Joins_bad {s : Str} (hl : s.length ≤ 1000) (h : isA s = false) (p : Bool × List (Int × Int)) : t_Joins_init s p = .err "InvalidAlphabet" [("alphabet", .str s)] := by
  unfold t_Joins_init
  rw [t_checked_alphabet_eq s hl, h]; rfl
end DL
namespace DL
open PySem PySem.Spec L2
/-! the same datum twice -/
section
variable {ρ ρ' : Env} {g h : M Fl} {t : M Bool} {f : M DO} {x : DO} {r : Rz Fl}
theorem run_rt {n : Nat} {ds : List DO} (h : g (ds.map some ++ List.replicate (n - ds.length) none) = .ok (.rt x) ρ) : runBody n [] g ds = .ok x [] := by unfold runBody; rw [h]; rfl
theorem sq (h1 : g ρ = .ok .nx ρ') (h2 : h ρ' = r) : mSeq g h ρ = r := by unfold mSeq; rw [h1]; exact h2
theorem sqr (h1 : g ρ = .ok (.rt x) ρ') : mSeq g h ρ = .ok (.rt x) ρ' := by unfold mSeq; rw [h1]
theorem ifF (h1 : t ρ = .ok false ρ) (h2 : h ρ = r) : mIfS t g h ρ = r := pb h1 h2
theorem ifT (h1 : t ρ = .ok true ρ) (h2 : g ρ = r) : mIfS t g h ρ = r := pb h1 h2
theorem rt' (h : f ρ = .ok x ρ) : mRet f ρ = .ok (.rt x) ρ := pb h rfl
theorem callB_of {m : List DO → Rf} {fs : M (List DO)} {xs : List DO} (hf : fs ρ = .ok xs ρ) (h : m (xs.map noO) = .ok x []) (hi : indD x.1 x.2 = true) : mCallB m fs ρ = .ok x ρ := pb hf (by rw [h]; show (if _ then _ else _) = _; rw [if_pos hi])
end
inductive SameOK : Nat → D → Prop
  | int (n : Nat) (i : Int) : SameOK n (.int i)
  | str (n : Nat) (s : Str) : SameOK n (.str s)
  | tup {n : Nat} {ds : List D} (h : ∀ d ∈ ds, SameOK n d) (hl : ds.length < 1000000) : SameOK (n + 1) (.tup ds)
theorem SameOK.not_non {n : Nat} {d : D} (h : SameOK n d) : gIsN (d, .no) (.non, .no) = fun ρ => .ok (.bl false, .no) ρ := by
  cases h <;> rfl
theorem isi_int {ρ : Env} {c : String} {b : Bool} (i : Int) (h : isaD it (.b "int") (.ty c) = some b) : mTru (mCall (gIsi it ito) (mCons (mC (.int i)) (mCons (mC (.ty c)) mNil))) ρ = .ok b ρ := pTru (pCall (pCons rfl (pCons rfl pNil)) (isi_ok rfl rfl h)) rfl
theorem same_go : ∀ (n : Nat) (d : D), SameOK n d → r_law_same (n + 1) [(d, .no), (d, .no)] = .ok (.bl true, .no) [] := by
  intro n
  induction n with
  | zero =>
    intro d hd
    rw [r_law_same]
    cases hd with
    | int _ i =>
      exact run_rt (sq (ifF (pBool (p2 rfl rfl rfl)) rfl) (sq (ifF (pTru (pCall (pCons rfl (pCons rfl pNil)) (isi_ok rfl rfl (show isaD it (.b "int") (.ty "str") = some false by decide))) rfl) rfl)
        (sq (ifF (pTru (pCall (pCons rfl (pCons rfl pNil)) (isi_ok rfl rfl (show isaD it (.b "int") (.ty "bool") = some false by decide))) rfl) rfl)
        (sqr (ifT (pTru (pCall (pCons rfl (pCons rfl pNil)) (isi_ok rfl rfl (show isaD it (.b "int") (.ty "int") = some true by decide))) rfl)
          (rt' (x := (.bl (true && (!false && true)), .no)) (pAndV (pCall (pCons rfl (pCons rfl pNil)) (isi_ok rfl rfl (show isaD it (.b "int") (.ty "int") = some true by decide))) (pAndV (pNotV (pCall (pCons rfl (pCons rfl pNil)) (isi_ok rfl rfl (show isaD it (.b "int") (.ty "bool") = some false by decide)))) (p2 rfl rfl (by rw [o_eqI]; simp))))))))))
    | str _ s =>
      exact run_rt (sq (ifF (pBool (p2 rfl rfl rfl)) rfl) (sqr (ifT (pTru (pCall (pCons rfl (pCons rfl pNil)) (isi_ok rfl rfl (show isaD it (.b "str") (.ty "str") = some true by decide))) rfl)
          (rt' (x := (.bl (true && true), .no)) (pAndV (pCall (pCons rfl (pCons rfl pNil)) (isi_ok rfl rfl (show isaD it (.b "str") (.ty "str") = some true by decide))) (p2 rfl rfl (by rw [o_eqS]; simp)))))))
  | succ n ih =>
    intro d hd
    rw [r_law_same]
    cases hd with
    | int _ i =>
      exact run_rt (sq (ifF (pBool (p2 rfl rfl rfl)) rfl) (sq (ifF (pTru (pCall (pCons rfl (pCons rfl pNil)) (isi_ok rfl rfl (show isaD it (.b "int") (.ty "str") = some false by decide))) rfl) rfl)
        (sq (ifF (pTru (pCall (pCons rfl (pCons rfl pNil)) (isi_ok rfl rfl (show isaD it (.b "int") (.ty "bool") = some false by decide))) rfl) rfl)
        (sqr (ifT (pTru (pCall (pCons rfl (pCons rfl pNil)) (isi_ok rfl rfl (show isaD it (.b "int") (.ty "int") = some true by decide))) rfl)
          (rt' (x := (.bl (true && (!false && true)), .no)) (pAndV (pCall (pCons rfl (pCons rfl pNil)) (isi_ok rfl rfl (show isaD it (.b "int") (.ty "int") = some true by decide))) (pAndV (pNotV (pCall (pCons rfl (pCons rfl pNil)) (isi_ok rfl rfl (show isaD it (.b "int") (.ty "bool") = some false by decide)))) (p2 rfl rfl (by rw [o_eqI]; simp))))))))))
    | str _ s =>
      exact run_rt (sq (ifF (pBool (p2 rfl rfl rfl)) rfl) (sqr (ifT (pTru (pCall (pCons rfl (pCons rfl pNil)) (isi_ok rfl rfl (show isaD it (.b "str") (.ty "str") = some true by decide))) rfl)
          (rt' (x := (.bl (true && true), .no)) (pAndV (pCall (pCons rfl (pCons rfl pNil)) (isi_ok rfl rfl (show isaD it (.b "str") (.ty "str") = some true by decide))) (p2 rfl rfl (by rw [o_eqS]; simp)))))))
    | @tup _ ds h hl =>
      have loop : ∀ body : M Fl, body = (mIfS (mNotT (mTru (mCallB (r_law_same (n + 1)) (mCons (m2 gSub1 (mNameF 0) (mNameF 2)) (mCons (m2 gSub1 (mNameF 1) (mNameF 2)) mNil))))) (mRet (mC (.bl false))) mNx) →
          ∃ z, mFor (mRange1 (mCons (mCall gLen (mCons (mNameF 1) mNil)) mNil)) (tgN 2) body [some (.tup ds, .no), some (.tup ds, .no), none] = .ok .nx [some (.tup ds, .no), some (.tup ds, .no), z] := by
        rintro body rfl
        obtain ⟨ρ', h1, z, rfl⟩ := forGo_inv (tg := tgN 2) (g := (mIfS (mNotT (mTru (mCallB (r_law_same (n + 1)) (mCons (m2 gSub1 (mNameF 0) (mNameF 2)) (mCons (m2 gSub1 (mNameF 1) (mNameF 2)) mNil))))) (mRet (mC (.bl false))) mNx)) (ds := rangeD 0 ds.length) (ρ := [some (.tup ds, .no), some (.tup ds, .no), none])
          (fun i ρ => ∃ z, ρ = [some (.tup ds, .no), some (.tup ds, .no), z]) 0 (fun i d ρ hd ⟨z, he⟩ => by
            rw [rangeD_eq, List.getElem?_map] at hd
            cases hq : (rangeI 0 ds.length)[i]? with
            | none => rw [hq] at hd; cases hd
            | some x =>
              rw [hq] at hd
              obtain ⟨hi, rfl⟩ := rangeI_get hq
              cases hd
              subst he
              have hx := atI_nat (List.getElem?_eq_getElem hi)
              have gx : ∀ ρ : Env, gSub1 (.tup ds, .no) (.int (0 + (i : Int)), .no) ρ = .ok (ds[i], .no) ρ := fun ρ => by rw [Int.zero_add]; exact o_sub1T _ _ _ hx
              refine ⟨_, _, rfl, .inl (ifF (pNotT (b := true) (pTru (callB_of (x := (.bl true, .no)) (pCons (p2 rfl rfl (gx _)) (pCons (p2 rfl rfl (gx _)) pNil)) (ih _ (h _ (List.getElem_mem hi))) rfl) rfl)) rfl), _, rfl⟩) ⟨none, rfl⟩
        refine ⟨z, ?_⟩
        have hr : mRange1 (mCons (mCall gLen (mCons (mNameF 1) mNil)) mNil) [some (.tup ds, .no), some (.tup ds, .no), none] = .ok (rangeD 0 ds.length) [some (.tup ds, .no), some (.tup ds, .no), none] := by
          refine pb (pCons (pCall (pCons rfl pNil) (o_lenT ds)) pNil) ?_
          dsimp only
          rw [if_pos (rgOk_of ⟨by omega, by omega⟩), Int.toNat_natCast]
        exact pb hr h1
      obtain ⟨z, hz⟩ := loop _ rfl
      refine run_rt (sq (ifF (pBool (p2 rfl rfl rfl)) rfl) (sq (ifF (pTru (pCall (pCons rfl (pCons rfl pNil)) (isi_ok rfl rfl (show isaD it (.b "tuple") (.ty "str") = some false by decide))) rfl) rfl)
        (sq (ifF (pTru (pCall (pCons rfl (pCons rfl pNil)) (isi_ok rfl rfl (show isaD it (.b "tuple") (.ty "bool") = some false by decide))) rfl) rfl)
        (sq (ifF (pTru (pCall (pCons rfl (pCons rfl pNil)) (isi_ok rfl rfl (show isaD it (.b "tuple") (.ty "int") = some false by decide))) rfl) rfl)
        (sq (ifF (pOrT (b := false) (c := false) (pNotT (b := true) (pTru (pCall (pCons rfl (pCons rfl pNil)) (isi_ok rfl rfl (show isaD it (.b "tuple") (.ty "tuple") = some true by decide))) rfl)) (pBool (b := false) (o := .no) (p2 (z := (.bl false, .no)) (pCall (pCons rfl pNil) (o_lenT ds)) (pCall (pCons rfl pNil) (o_lenT ds)) ?_))) rfl)
        (sq hz (rt' rfl)))))))
      show gNe (.int ds.length, .no) (.int ds.length, .no) _ = _
      unfold gNe gFlat2 dEq
      simp [scalD]
theorem t_law_same_ok {d : D} (h : SameOK 7 d) : t_law_same d d = .ok true := by
  unfold t_law_same
  rw [show fuel = 7 + 1 from rfl, same_go 7 d h]
  rfl
/-! asking -/
theorem app1 {α : Type} (x : α) : appT ([] : List α) x = .ok [x] := appT_ok (show 0 < sizeLine by decide)
theorem len1 {α : Type} (x : α) : decide (((([x] : List α).length : Nat) : Int) = 1) = true := (rfl)
theorem idx1 {α : Type} (x : α) : idx [x] 0 = .ok x := rfl
theorem tryT_err {S L R : Type} {xm : XM} {c : String} {fs : List (String × D)} {h : String → List (String × D) → TR (Fo S L R)} {a : Fo S L R} (hx : xm.lookup c = some true) (hh : h c fs = .ok a) : tryT xm (.err c fs) h = .ok a := by
  unfold tryT
  simp only [hx, hh]
theorem isX_of {c0 : String} {c : D} {b : Bool} (h : isaD it (.o c0) c = some b) : isXT it c0 c = .ok b := by unfold isXT; rw [h]; rfl
abbrev emptyS : Str := Str.ofString ""
theorem ask_ok {s : Str} {p : Bool × List (Int × Int)} {o : O_Joins} (h : t_Joins_init s p = .ok o) : t_law_ask s p = .ok (emptyS, eTup (eP2 D.int D.int) o.pairs) := by
  unfold t_law_ask
  rw [h]
  simp only [TR.bind_ok, app1, tryT_ok, seq_nx, len1, if_true, idx1]
  simp only [TR.bind_ok, fin_rt, TR.ind]
  refine TR.guard_of ?_ _
  refine idt_p2 (fun _ => rfl) (f := fun d => eTup (eP2 D.int D.int) d) (fun x => idt_tup (fun y => idt_p2 (fun _ => rfl) (fun _ => rfl) y _) x _) (emptyS, o.pairs) _
theorem ask_np {s : Str} {p : Bool × List (Int × Int)} {r : Nat} (h : t_Joins_init s p = .err "NotProper" [("rank", .int r)]) : t_law_ask s p = .ok (Str.ofString "NotProper", .int r) := by
  unfold t_law_ask
  rw [h]
  simp only [TR.bind_err]
  rw [tryT_err (c := "NotProper") (fs := [("rank", .int r)]) (a := .nx [(Str.ofString "NotProper", D.int r)]) (by decide) ?_]
  · simp only [seq_nx, len1, if_true, idx1]
    simp only [TR.bind_ok, fin_rt, TR.ind]
    exact TR.guard_of rfl _
  · simp only [isX_of (show isaD it (.o "NotProper") (.cls "InvalidAlphabet") = some false by decide), isX_of (show isaD it (.o "NotProper") (.cls "NotProper") = some true by decide), isX_of (show isaD it (.o "NotProper") (.tup [(.cls "InvalidModel"), (.cls "InvalidNumber"), (.cls "InvalidText"), (.cls "NoChance"), (.cls "NoPiece"), (.cls "NotCut"), (.cls "UnknownSign")]) = some false by decide), isX_of (show isaD it (.o "NotProper") (.ty "ValueError") = some true by decide), TR.bind_ok, Bool.false_eq_true, if_false, if_true, seq_nx, Bool.not_true, app1]
    rfl
theorem ask_bad {s : Str} {p : Bool × List (Int × Int)} (h : t_Joins_init s p = .err "InvalidAlphabet" [("alphabet", .str s)]) : t_law_ask s p = .ok (Str.ofString "InvalidAlphabet", .str s) := by
  unfold t_law_ask
  rw [h]
  simp only [TR.bind_err]
  rw [tryT_err (c := "InvalidAlphabet") (fs := [("alphabet", .str s)]) (a := .nx [(Str.ofString "InvalidAlphabet", D.str s)]) (by decide) ?_]
  · simp only [seq_nx, len1, if_true, idx1]
    simp only [TR.bind_ok, fin_rt, TR.ind]
    exact TR.guard_of rfl _
  · simp only [isX_of (show isaD it (.o "InvalidAlphabet") (.cls "InvalidAlphabet") = some true by decide), isX_of (show isaD it (.o "InvalidAlphabet") (.cls "NotProper") = some false by decide), isX_of (show isaD it (.o "InvalidAlphabet") (.tup [(.cls "InvalidModel"), (.cls "InvalidNumber"), (.cls "InvalidText"), (.cls "NoChance"), (.cls "NoPiece"), (.cls "NotCut"), (.cls "UnknownSign")]) = some false by decide), isX_of (show isaD it (.o "InvalidAlphabet") (.ty "ValueError") = some true by decide), TR.bind_ok, Bool.false_eq_true, if_false, if_true, seq_nx, Bool.not_true, app1]
    rfl
end DL
namespace DL
open PySem PySem.Spec L2
theorem odd_bad1 : isA (Str.ofString "") = false := by decide +kernel
/-! the pairs of the law -/
theorem idx5 (xs : List Int) (h : xs.length = 5) (v : Int) : ∃ y, idx xs (v % 5) = .ok y := by
  have h0 := Int.emod_nonneg v (show (5 : Int) ≠ 0 by decide)
  have h1 := Int.emod_lt_of_pos v (show (0 : Int) < 5 by decide)
  exact ⟨_, idx_at (i := (v % 5).toNat) (by omega) (by omega)⟩
theorem orT_ok_true (t : TR Bool) : orT (.ok true) t = .ok true := rfl
theorem law_pairs_sat {ns : List Int} (hn : ns.length = 45 ∧ ∀ x ∈ ns, 0 ≤ x ∧ x < 1000) {A : Str} (hA : Alph A) : (t_law_pairs ns A).Sat fun ps => ps.length ≤ 15 := by
  have hsz := sizeL
  have hal := hA.le
  obtain ⟨v2, g2, _, _⟩ := num_at hn (k := 2) (by decide) (by decide)
  obtain ⟨v3, g3, _, _⟩ := num_at hn (k := 3) (by decide) (by decide)
  have hm0 := Int.emod_nonneg v2 (show (15 : Int) ≠ 0 by decide)
  have hm1 := Int.emod_lt_of_pos v2 (show (0 : Int) < 15 by decide)
  have step : ∀ (i : Nat) (s : List (Int × Int) × List Str), i < 15 → s.1.length ≤ i → s.2.length = A.length + s.1.length → TextsOK A s.2 →
      ∃ s', t_law_pairs_l0 ns A (i : Int) s = .ok (.nx s') ∧ s'.1.length ≤ i + 1 ∧ s'.2.length = A.length + s'.1.length ∧ TextsOK A s'.2 := by
    rintro i ⟨ps, texts⟩ hi h1 h2 hT
    simp only at h1 h2 hT
    obtain ⟨w1, k1, _, _⟩ := num_at hn (k := 10 + 2 * (i : Int)) (by omega) (by omega)
    obtain ⟨w2, k2, _, _⟩ := num_at hn (k := 11 + 2 * (i : Int)) (by omega) (by omega)
    obtain ⟨w3, k3, _, _⟩ := num_at hn (k := 40 + (i : Int) % 5) (by omega) (by omega)
    have hM : ∀ z : Int, modT z ((texts.length : Int) + 1) = .ok (z % ((texts.length : Int) + 1)) := fun z => modT_ok (by omega)
    have hD100 : ∀ z : Int, divT z 100 = .ok (z / 100) := fun z => divT_ok (by decide) (by decide)
    have hD60 : ∀ z : Int, divT z 60 = .ok (z / 60) := fun z => divT_ok (by decide) (by decide)
    have hD7 : ∀ z : Int, divT z 7 = .ok (z / 7) := fun z => divT_ok (by decide) (by decide)
    have hDi : ∀ z : Int, divT z (1 + (i : Int)) = .ok (z / (1 + (i : Int))) := fun z => divT_ok (by omega) (by
      have : ((1 : Int) + (i : Int)).natAbs < 2 ^ 9000 := by
        have : ((1 : Int) + (i : Int)).natAbs ≤ 16 := by omega
        exact Nat.lt_of_le_of_lt this (by decide +kernel)
      exact (Nat.log2_lt (by omega)).mpr this)
    have hP : powT 10 12 = .ok ((10 : Int) ^ (12 : Int).toNat) := TR.guard_of (by decide) _
    have hpr := fun q => t_law_is_proper_eq hA hT (ps := ps) (by omega) q
    have hap : ∀ q : Int × Int, appT ps q = .ok (ps ++ [q]) := fun q => appT_ok (by omega)
    have hat : ∀ t : Str, appT texts t = .ok (texts ++ [t]) := fun t => appT_ok (by omega)
    unfold t_law_pairs_l0
    simp only [m_l (k := 2) (by decide), TR.bind_ok, TR.bind_pure, k1, k2, k3, g3, hM, hD100, hD60, hD7, hDi, hP, ite_ok, ite_nx, seq_nx, andT_ok, orT_ok, hpr, hap]
    have key : ∀ (xs : List Int) (h : xs.length = 5) (v : Int) (F : Int → TR (Fo (List (Int × Int) × List Str) (List (Int × Int) × List Str) (List (Int × Int)))) (P : List (Int × Int) × List Str → Prop), (∀ y, ∃ s', F y = .ok (.nx s') ∧ P s') → ∃ s', (idx xs (v % 5)).bind F = .ok (.nx s') ∧ P s' := fun xs h v F P hF => by
      obtain ⟨y, hy⟩ := idx5 xs h v
      rw [hy]; exact hF y
    refine key _ rfl _ _ _ fun y => ?_
    have fin : ∀ (L R : Int) (c : Bool), ∃ s' : List (Int × Int) × List Str, (if (properB A texts ps (L, R) || c) = true then TR.seq (L := List (Int × Int) × List Str) (R := List (Int × Int)) (if properB A texts ps (L, R) = true then (((idx texts L).bind fun p1 => (idx texts R).bind fun p2 => addS p1 p2).bind fun b => appT texts b).bind fun p => TR.ok (Fo.nx p) else (appT texts (Str.ofString "")).bind fun p => TR.ok (Fo.nx p)) fun s => TR.ok (Fo.nx (ps ++ [(L, R)], s)) else TR.ok (Fo.nx (ps, texts))) = TR.ok (Fo.nx s') ∧
        s'.1.length ≤ i + 1 ∧ s'.2.length = A.length + s'.1.length ∧ TextsOK A s'.2 := by
      intro L R c
      cases hb : properB A texts ps (L, R) with
      | true =>
        obtain ⟨q1, q2, q3, _⟩ := properB_iff.mp hb
        have hc := cat_text hT (q := (L, R)) q1 q2
        simp only at hc
        refine ⟨(ps ++ [(L, R)], texts ++ [cat texts (L, R)]), ?_, by simp; omega, by simp; omega, texts_app hT hb⟩
        simp only [Bool.true_or, if_true, hc, TR.bind_ok, hat, seq_nx]
      | false =>
        cases c with
        | true =>
          refine ⟨(ps ++ [(L, R)], texts ++ [Str.ofString ""]), ?_, by simp; omega, by simp; omega, fun t m => ?_⟩
          · simp only [Bool.or_true, if_true, Bool.false_eq_true, if_false, hat, TR.bind_ok, seq_nx]
          · rcases List.mem_append.mp m with m | m
            · exact hT t m
            · simp at m; subst m; exact ⟨by decide +kernel, fun c hc => absurd hc (by rw [show tl (Str.ofString "") = [] by decide +kernel]; simp)⟩
        | false => exact ⟨(ps, texts), by simp, by simp only; omega, by simp only; omega, hT⟩
    exact fin _ _ _
  unfold t_law_pairs
  rw [listS_ok (by omega), TR.bind_ok]
  simp only [g2, TR.bind_ok, TR.bind_pure]
  rw [rng1_ok (by omega), TR.bind_ok]
  obtain ⟨s, e1, e2, _⟩ := forT_inv (L := Empty) (step := t_law_pairs_l0 ns A) (fun i s => s.1.length ≤ i ∧ s.2.length = A.length + s.1.length ∧ TextsOK A s.2) (xs := rangeI 0 (v2 % 15).toNat) (a := ([], signs A)) 0 (fun i x s hx hs => by
    obtain ⟨hi, ex⟩ := rangeI_get hx
    rw [Int.zero_add] at ex
    subst ex
    rw [Nat.zero_add] at hs ⊢
    obtain ⟨s', q1, q2⟩ := step i s (by omega) hs.1 hs.2.1 hs.2.2
    exact ⟨s', .inl q1, q2⟩) ⟨by simp, by simp [signs_len], signs_ok⟩
  rw [e1]
  simp only [seq_nx, fin_rt, TR.sat_ok]
  simp only [rangeI_len] at e2
  omega
/-! wrong alphabets -/
theorem isA_len {s : Str} (h : s.length = 0 ∨ 30 < s.length) : isA s = false := by
  unfold isA
  have : (decide (1 ≤ s.length) && decide (s.length ≤ 30)) = false := by
    rcases h with h | h
    · rw [show decide (1 ≤ s.length) = false from decide_eq_false (by omega), Bool.false_and]
    · rw [show decide (s.length ≤ 30) = false from decide_eq_false (by omega), Bool.and_false]
  rw [this]; rfl
theorem isA_asc {s : Str} {i a b : Nat} (ha : (tl s)[i]? = some a) (hb : (tl s)[i + 1]? = some b) (h : b ≤ a) : isA s = false := by
  unfold isA
  have : ascB (tl s) = false := by
    cases e : ascB (tl s) with
    | false => rfl
    | true => have := (ascB_iff _).mp e i a b ha hb; omega
  rw [this, Bool.and_false]
theorem isA_rng {s : Str} {c : Nat} (hc : c ∈ tl s) (h : c < 32) : isA s = false := by
  unfold isA
  have : ((tl s).all fun c => decide (32 ≤ c) && decide (c ≤ 126)) = false := by
    rw [List.all_eq_false]
    exact ⟨c, hc, by simp; omega⟩
  rw [this, Bool.and_false, Bool.false_and]
theorem last_app {s t : Str} {c : Nat} (hs : s.length ≠ 0) (ht : (tl t)[0]? = some c) (h : ∀ a ∈ tl s, c ≤ a) : isA (s ++ t) = false := by
  have hl : (tl s).length ≠ 0 := hs
  have hi : (tl s).length - 1 < (tl s).length := by omega
  refine isA_asc (i := (tl s).length - 1) (a := (tl s)[(tl s).length - 1]) (b := c) ?_ ?_ (h _ (List.getElem_mem hi))
  · rw [app_tl, List.getElem?_append_left hi, List.getElem?_eq_getElem hi]
  · rw [app_tl, List.getElem?_append_right (by omega), show (tl s).length - 1 + 1 - (tl s).length = 0 by omega]; exact ht
theorem head_le {s : Str} (hA : Alph s) {c : Nat} (hc : (tl s)[0]? = some c) : ∀ a ∈ tl s, c ≤ a := fun a m => by
  obtain ⟨h0, rfl⟩ := List.getElem?_eq_some_iff.mp hc
  obtain ⟨i, hi, rfl⟩ := List.getElem_of_mem m
  by_cases e : i = 0
  · subst e; exact Nat.le_refl _
  · exact Nat.le_of_lt (List.pairwise_iff_getElem.mp hA.asc 0 i h0 hi (by omega))
theorem odds_bad {A : Str} (hA : Alph A) {v : Int} : ∃ s, (((((slS A none (some 1)).bind fun p642 => addS A p642).bind fun p644 => (addS A (Str.ofString " ")).bind fun p646 => (addS A (Str.ofString "\n")).bind fun p648 => TR.ok (p644, p646, p648)).bind fun p650 => TR.ok ([(Str.ofString ""), p650.1, p650.2.1, p650.2.2, (Str.ofString "0123456789ABCDEFGHIJKLMNOPQRSTU")])).bind fun p652 => ((((addS (Str.ofString "\t") A).bind fun p662 => ((idxS A (-1)).bind fun p664 => addS p664 A).bind fun p666 => TR.ok (p662, p666)).bind fun p668 => TR.ok ([(Str.ofString "0123456789ABCDEFGHIJKLMNOPQRSTUVWXYZ"), p668.1, p668.2])).bind fun p670 => addT p652 p670).bind fun p672 => idx p672 (v % 8)) = .ok s ∧ isA s = false ∧ s.length ≤ 1000 := by
  have hsz := sizeL
  have hal := hA.le
  have hap := hA.pos
  have hl : (tl A).length = A.length := rfl
  have ne : tl A ≠ [] := fun e => by rw [e] at hl; simp at hl; omega
  have h0 : 0 < (tl A).length := by omega
  have hc : (tl A)[0]? = some (tl A)[0] := List.getElem?_eq_getElem h0
  have e1 : slS A none (some 1) = .ok (cutS A none (some 1)) := slS_ok (by omega)
  have t1 : tl (cutS A none (some 1)) = (tl A).take 1 := by
    show (((tl A).drop (HT.sIx A.length 0 none)).take (HT.sIx A.length A.length (some 1) - HT.sIx A.length 0 none)).toArray.toList = _
    rw [HT.sIx_none, show (1 : Int) = ((1 : Nat) : Int) from rfl, HT.sIx_nat]
    simp [Nat.min_eq_left hap]
  have l1 : (cutS A none (some 1)).length = 1 := by rw [len_tl, t1, List.length_take]; omega
  have e2 := addS_ok (a := A) (b := cutS A none (some 1)) (by omega)
  have ls : (Str.ofString " ").length = 1 := by decide +kernel
  have ln : (Str.ofString "\n").length = 1 := by decide +kernel
  have lt' : (Str.ofString "\t").length = 1 := by decide +kernel
  have e3 := addS_ok (a := A) (b := Str.ofString " ") (by omega)
  have e4 := addS_ok (a := A) (b := Str.ofString "\n") (by omega)
  have e5 := addS_ok (a := Str.ofString "\t") (b := A) (by omega)
  have e6 : idxS A (-1) = .ok (one ((tl A).getLast ne)) := by
    unfold idxS
    rw [if_pos (by omega)]
    have : atI (tl A) (-1) = some ((tl A).getLast ne) := by
      have := atI_last (tl A).dropLast ((tl A).getLast ne)
      rwa [List.dropLast_concat_getLast] at this
    rw [this]; rfl
  have lo : (one ((tl A).getLast ne)).length = 1 := rfl
  have e7 := addS_ok (a := one ((tl A).getLast ne)) (b := A) (by omega)
  have e8 : ∀ xs ys : List Str, xs.length + ys.length ≤ 100 → addT xs ys = .ok (xs ++ ys) := fun xs ys h => addT_ok (by omega)
  simp only [e1, e2, e3, e4, e5, e6, e7, TR.bind_ok]
  rw [e8 _ _ (by simp), TR.bind_ok]
  have hm0 := Int.emod_nonneg v (show (8 : Int) ≠ 0 by decide)
  have hm1 := Int.emod_lt_of_pos v (show (0 : Int) < 8 by decide)
  generalize hxs : ([Str.ofString "", A ++ cutS A none (some 1), A ++ Str.ofString " ", A ++ Str.ofString "\n", Str.ofString "0123456789ABCDEFGHIJKLMNOPQRSTU"] ++ [Str.ofString "0123456789ABCDEFGHIJKLMNOPQRSTUVWXYZ", Str.ofString "\t" ++ A, one ((tl A).getLast ne) ++ A]) = xs
  have hlen : xs.length = 8 := by rw [← hxs]; rfl
  have hk : (v % 8).toNat < xs.length := by omega
  refine ⟨xs[(v % 8).toNat], idx_at hk (by omega), ?_⟩
  have hmem := List.getElem_mem hk
  generalize xs[(v % 8).toNat] = s at hmem
  rw [← hxs] at hmem
  simp only [List.cons_append, List.nil_append, List.mem_cons, List.not_mem_nil, or_false] at hmem
  rcases hmem with rfl | rfl | rfl | rfl | rfl | rfl | rfl | rfl
  · exact ⟨odd_bad1, by decide +kernel⟩
  · exact ⟨last_app (by omega) (by rw [t1, List.getElem?_take_of_lt (by omega)]; exact hc) (head_le hA hc), by rw [app_len]; omega⟩
  · exact ⟨last_app (c := 32) (by omega) (by decide +kernel) fun a m => (hA.rng a m).1, by rw [app_len]; omega⟩
  · exact ⟨isA_rng (c := 10) (by rw [app_tl]; exact List.mem_append.mpr (.inr (by decide +kernel))) (by omega), by rw [app_len]; omega⟩
  · exact ⟨isA_len (.inr (by decide +kernel)), by decide +kernel⟩
  · exact ⟨isA_len (.inr (by decide +kernel)), by decide +kernel⟩
  · exact ⟨isA_rng (c := 9) (by rw [app_tl]; exact List.mem_append.mpr (.inl (by decide +kernel))) (by omega), by rw [app_len]; omega⟩
  · refine ⟨isA_asc (i := 0) (a := (tl A).getLast ne) (b := (tl A)[0]) ?_ ?_ (head_le hA hc _ (List.getLast_mem ne)), by rw [app_len]; omega⟩
    · rw [app_tl]; rfl
    · rw [app_tl, one_tl, List.getElem?_append_right (by simp)]; exact hc
theorem bind_inv {α β : Type} {t : TR α} {k : α → TR β} {b : β} (h : t.bind k = .ok b) : ∃ a, t = .ok a ∧ k a = .ok b := by
  cases t with
  | ok a => exact ⟨a, rfl, h⟩
  | stuck => cases h
  | err c fs => cases h
theorem same_str (s : Str) (d : D) (h : SameOK 6 d) : t_law_same (eP2 D.str eD (s, d)) (eP2 D.str eD (s, d)) = .ok true := by
  refine t_law_same_ok (.tup (fun x m => ?_) (show 2 < 1000000 by decide))
  simp only [List.mem_cons, List.not_mem_nil, or_false] at m
  rcases m with rfl | rfl
  · exact .str _ _
  · exact h
theorem same_pairs {ps : List (Int × Int)} (h : ps.length ≤ 1000) : SameOK 6 (eTup (eP2 D.int D.int) ps) := by
  refine .tup (fun x m => ?_) (by rw [List.length_map]; omega)
  obtain ⟨q, _, rfl⟩ := List.mem_map.mp m
  refine .tup (fun y m => ?_) (show 2 < 1000000 by decide)
  simp only [List.mem_cons, List.not_mem_nil, or_false] at m
  rcases m with rfl | rfl <;> exact .int _ _
theorem law_step {ns : List Int} {i : Nat} (hi : i < ns.length) : t_law_l0 ns (i : Int) () = .ok (.nx ()) := by
  obtain ⟨nm, hnm, hn⟩ := law_numbers_sat ns[i] (i : Int)
  obtain ⟨v0, g0, _, _⟩ := num_at hn (k := 0) (by decide) (by decide)
  obtain ⟨v1, g1, _, _⟩ := num_at hn (k := 1) (by decide) (by decide)
  obtain ⟨v9, g9, _, _⟩ := num_at hn (k := 9) (by decide) (by decide)
  have hm0 := Int.emod_nonneg v0 (show (5 : Int) ≠ 0 by decide)
  have hm1 := Int.emod_lt_of_pos v0 (show (0 : Int) < 5 by decide)
  obtain ⟨A, hAe, hA⟩ := law_alphabet_sat hn (many := 1 + v0 % 5) (by omega) (by omega)
  obtain ⟨ps, hps, hpl⟩ := law_pairs_sat hn hA
  have hdue := t_law_due_eq hA (ps := ps) (by omega)
  have gx := idx_at hi (rfl : ((i : Nat) : Int) = _)
  have hsome : ∀ (o : Option Nat), (if (o.map fun r : Nat => (r : Int)).isSome = true then TR.ok (Fo.nx (Str.ofString "NotProper", eOpt D.int (o.map fun r : Nat => (r : Int)))) else TR.ok (Fo.nx (Str.ofString "", eTup (eP2 D.int D.int) ps)) : TR (Fo (Str × D) Unit Bool)) = .ok (.nx (match o with | some r => (Str.ofString "NotProper", .int r) | none => (Str.ofString "", eTup (eP2 D.int D.int) ps))) := fun o => by cases o <;> rfl
  have hD : ∀ z : Int, divT z 8 = .ok (z / 8) := fun z => divT_ok (by decide) (by decide)
  have hand : ∀ c : Bool, (if c = true then (TR.ok (Fo.nx (false, ps))) else TR.ok (Fo.nx (true, ps)) : TR (Fo (Bool × List (Int × Int)) Unit Bool)) = .ok (.nx (!c, ps)) := fun c => by cases c <;> rfl
  unfold t_law_l0
  simp only [gx, TR.bind_ok, TR.bind_pure, hnm, g0, hAe, hps, hdue, hsome, seq_nx, g1, g9, hD, hand]
  cases hz : decide (v1 % 8 = 0) with
  | true =>
    obtain ⟨s, hs, s1, s2⟩ := odds_bad hA (v := v1 / 8)
    simp only [if_true]
    obtain ⟨a, ha, hs⟩ := bind_inv hs
    obtain ⟨b, hb, hs⟩ := bind_inv hs
    simp only [ha, hb, hs, TR.bind_ok, seq_nx, ask_bad (t_Joins_bad s2 s1 _), same_str _ _ (SameOK.str 6 s)]
    rfl
  | false =>
    simp only [Bool.false_eq_true, if_false, seq_nx]
    have hJ := t_Joins_init_eq hA (!decide (v9 % 2 = 0)) ps (by omega)
    cases hd : dueGo A (signs A) [] ps 0 with
    | none =>
      rw [hd] at hJ
      obtain ⟨o, h1, h2⟩ := hJ
      simp only [ask_ok h1, h2, TR.bind_ok, same_str _ _ (same_pairs (show ps.length ≤ 1000 by omega))]
      rfl
    | some r =>
      rw [hd] at hJ
      simp only [ask_np hJ, TR.bind_ok, same_str _ _ (SameOK.int 6 (r : Int))]
      rfl
theorem law_true (ns : List Int) (hl : ns.length ≤ 63) : t_law ns = .ok true := by
  obtain ⟨s, h1, _⟩ := forT_inv (L := Empty) (step := t_law_l0 ns) (fun _ _ => True) (xs := rangeI 0 (if (8 : Int) < (ns.length : Int) then (8 : Int) else (ns.length : Int)).toNat) (a := ()) 0 (fun i x s hx _ => by
    obtain ⟨hi, ex⟩ := rangeI_get hx
    rw [Int.zero_add] at ex
    subst ex
    refine ⟨(), .inl (law_step ?_), trivial⟩
    split at hi <;> omega) trivial
  unfold t_law
  rw [rng1_ok (by split <;> omega), TR.bind_ok, h1]
  rfl
theorem law_pure (ns : List Int) (hl : ns.length ≤ 63) : r_law [(.lsk (ns.map .int), .no)] = .ok (.bl true, .no) [] := by
  have h := lk_law ns
  rw [law_true ns hl] at h
  exact h.1
end DL
namespace DL
open PySem PySem.Spec L2
section
variable {P : Program} {w : World} {K : PySem.W.Frag} {mg : Str → Option Value} {base : Heap} {cl : String → Addr} {fa : Nat → Addr} {fd : Nat → FuncData}
theorem sc_law_alphabet : FnScope ["numbers", "k", "many", "signs", "chosen", "j", "sign"] ["numbers", "k", "many"] (defScope s_law_alphabet) := ⟨rfl, rfl, rfl, by decide +kernel, rfl, by decide +kernel, by decide +kernel⟩
theorem ok_law_alphabet (T : Txt K mg cl fa fd) : FnOk P w K mg base (L2.CX P w) 2 (fa 0) (fd 0) ["numbers", "k", "many"] (spD K cl 3 [] r_law_alphabet) :=
  fnD T.F_law_alphabet sc_law_alphabet rfl (by decide) fun cdv A outer s H E vf hr =>
   (qss_cons (qs_set 3 (sc_law_alphabet).nd rfl (by first | exact Or.inl rfl | exact Or.inr rfl) qx_str)
    (qss_cons (qs_set 3 (sc_law_alphabet).nd rfl (by first | exact Or.inl rfl | exact Or.inr rfl) (qx_frz (qx_add (qx_namF 3) qx_str)))
    (qss_cons (qs_set 4 (sc_law_alphabet).nd rfl (by first | exact Or.inl rfl | exact Or.inr rfl) (qx_lst qa_nil))
    (qss_cons (qs_for (passes_of rfl) (qi_range1 (by rfl) T.n_range (qa_cons (qx_namF 2) qa_nil)) (qg_name 5 (sc_law_alphabet).nd rfl (by first | exact Or.inl rfl | exact Or.inr rfl))
    (qss_cons (qs_set 6 (sc_law_alphabet).nd rfl (by first | exact Or.inl rfl | exact Or.inr rfl) (qx_sub1 (hu_of hr) (qx_namF 3) (qx_mod (qx_callTy call_int1 dr_int (by rfl) T.n_int (by rfl) (qa_cons (qx_sub1 (hu_of hr) (qx_namF 0) (qx_add (qx_namF 1) (qx_namF 5))) qa_nil)) (qx_callB call_lenA dr_len (by rfl) T.n_len (by rfl) (qa_cons (qx_namF 3) qa_nil)))))
    (qss_one (qs_if (qt_notIn (hu_of hr) (qx_namF 6) (qx_name 4))
    (qss_one (qs_expr (qx_append (qp_name 4) (qa_cons (qx_namF 6) qa_nil))))
    qss_nil))))
    (qss_one (qs_ret (qx_meth PySem.F.plainAttrs_str PySem.F.slot_str_join PySem.F.type_str_join mt_join drm_join qx_str (qa_cons (qx_callB call_sortedA dr_sorted (by rfl) T.n_sorted (by rfl) (qa_cons (qx_name 4) qa_nil)) qa_nil))))))))
theorem sc_lowest_pair : FnScope ["ranks", "row", "best", "at", "pair"] ["ranks", "row"] (defScope s_lowest_pair) := ⟨rfl, rfl, rfl, by decide +kernel, rfl, by decide +kernel, by decide +kernel⟩
theorem ok_lowest_pair (T : Txt K mg cl fa fd) : FnOk P w K mg base (L2.CX P w) 2 (fa 1) (fd 1) ["ranks", "row"] (spD K cl 2 [] r_lowest_pair) :=
  fnD T.F_lowest_pair sc_lowest_pair rfl (by decide) fun cdv A outer s H E vf hr =>
   (qss_cons (qs_set 2 (sc_lowest_pair).nd rfl (by first | exact Or.inl rfl | exact Or.inr rfl) qx_non)
    (qss_cons (qs_for (passes_of rfl) (qi_range1 (by rfl) T.n_range (qa_cons (qx_sub (qx_callB call_lenA dr_len (by rfl) T.n_len (by rfl) (qa_cons (qx_namF 1) qa_nil)) qx_int) qa_nil)) (qg_name 3 (sc_lowest_pair).nd rfl (by first | exact Or.inl rfl | exact Or.inr rfl))
    (qss_cons (qs_set 4 (sc_lowest_pair).nd rfl (by first | exact Or.inl rfl | exact Or.inr rfl) (qx_tup (qa_cons (qx_sub1 (hu_of hr) (qx_namF 1) (qx_namF 3)) (qa_cons (qx_sub1 (hu_of hr) (qx_namF 1) (qx_add (qx_namF 3) qx_int)) qa_nil))))
    (qss_one (qs_if (qt_w (qw_and (qt_in (hu_of hr) (qx_namF 4) (qx_namF 0)) (qw_1 (qt_w (qw_or (qt_cmp op_isA dr_is (qx_namF 2) qx_non (nomark _)) (qw_1o (qt_cmp op_ltA dr_lt (qx_sub1 (hu_of hr) (qx_namF 0) (qx_namF 4)) (qx_sub1 (hu_of hr) (qx_namF 0) (qx_namF 2)) (nomark _))))))))
    (qss_one (qs_set 2 (sc_lowest_pair).nd rfl (by first | exact Or.inl rfl | exact Or.inr rfl) (qx_namF 4)))
    qss_nil))))
    (qss_one (qs_ret (qx_namF 2)))))
theorem sc_put_together : FnScope ["row", "pair", "piece", "found", "at"] ["row", "pair", "piece"] (defScope s_put_together) := ⟨rfl, rfl, rfl, by decide +kernel, rfl, by decide +kernel, by decide +kernel⟩
theorem ok_put_together (T : Txt K mg cl fa fd) : FnOk P w K mg base (L2.CX P w) 2 (fa 2) (fd 2) ["row", "pair", "piece"] (spD K cl 3 [] r_put_together) :=
  fnD T.F_put_together sc_put_together rfl (by decide) fun cdv A outer s H E vf hr =>
   (qss_cons (qs_set 3 (sc_put_together).nd rfl (by first | exact Or.inl rfl | exact Or.inr rfl) (qx_lst qa_nil))
    (qss_cons (qs_set 4 (sc_put_together).nd rfl (by first | exact Or.inl rfl | exact Or.inr rfl) qx_int)
    (qss_cons (qs_while (passes_of rfl) (qt_cmp op_ltA dr_lt (qx_namF 4) (qx_callB call_lenA dr_len (by rfl) T.n_len (by rfl) (qa_cons (qx_namF 0) qa_nil)) (nomark _))
    (qss_one (qs_if (qt_w (qw_and (qt_cmp op_ltA dr_lt (qx_add (qx_namF 4) qx_int) (qx_callB call_lenA dr_len (by rfl) T.n_len (by rfl) (qa_cons (qx_namF 0) qa_nil)) (nomark _)) (qw_1 (qt_cmp (op_eqA hr.units) dr_eq (qx_tup (qa_cons (qx_sub1 (hu_of hr) (qx_namF 0) (qx_namF 4)) (qa_cons (qx_sub1 (hu_of hr) (qx_namF 0) (qx_add (qx_namF 4) qx_int)) qa_nil))) (qx_namF 1) (nomark _)))))
    (qss_cons (qs_expr (qx_append (qp_name 3) (qa_cons (qx_namF 2) qa_nil)))
    (qss_one (qs_aug 4 (sc_put_together).nd iop_addF dr_addF qx_int)))
    (qss_cons (qs_expr (qx_append (qp_name 3) (qa_cons (qx_sub1 (hu_of hr) (qx_namF 0) (qx_namF 4)) qa_nil)))
    (qss_one (qs_aug 4 (sc_put_together).nd iop_addF dr_addF qx_int))))))
    (qss_one (qs_ret (qx_callTy (call_tupleA rfl) dr_tuple (by rfl) T.n_tuple (by rfl) (qa_cons (qx_name 3) qa_nil)))))))
theorem sc_cut_row : FnScope ["ranks", "letters", "row", "pair"] ["ranks", "letters", "row"] (defScope s_cut_row) := ⟨rfl, rfl, rfl, by decide +kernel, rfl, by decide +kernel, by decide +kernel⟩
theorem ok_cut_row (T : Txt K mg cl fa fd) : FnOk P w K mg base (L2.CX P w) 3 (fa 3) (fd 3) ["ranks", "letters", "row"] (spD K cl 3 [] r_cut_row) :=
  fnD T.F_cut_row sc_cut_row rfl (by decide) fun cdv A outer s H E vf hr =>
   (qss_cons (qs_set 3 (sc_cut_row).nd rfl (by first | exact Or.inl rfl | exact Or.inr rfl) (qx_frz (qx_fnB (ok_lowest_pair T) (hr.mono (by decide)) (by rfl) T.g_lowest_pair T.F_lowest_pair.kp T.b_lowest_pair (takes_of rfl rfl rfl rfl) (qa_cons (qx_namF 0) (qa_cons (qx_namF 2) qa_nil)) (hfs := (len_cons (len_cons (fun _ _ _ h => len_nil h)))))))
    (qss_cons (qs_while (passes_of rfl) (qt_cmp op_isNotA dr_isNot (qx_namF 3) qx_non (nomark _))
    (qss_cons (qs_set 2 (sc_cut_row).nd rfl (by first | exact Or.inl rfl | exact Or.inr rfl) (qx_frz (qx_fnB (ok_put_together T) (hr.mono (by decide)) (by rfl) T.g_put_together T.F_put_together.kp T.b_put_together (takes_of rfl rfl rfl rfl) (qa_cons (qx_namF 2) (qa_cons (qx_namF 3) (qa_cons (qx_add (qx_namF 1) (qx_sub1 (hu_of hr) (qx_namF 0) (qx_namF 3))) qa_nil))) (hfs := (len_cons (len_cons (len_cons (fun _ _ _ h => len_nil h))))))))
    (qss_one (qs_set 3 (sc_cut_row).nd rfl (by first | exact Or.inl rfl | exact Or.inr rfl) (qx_frz (qx_fnB (ok_lowest_pair T) (hr.mono (by decide)) (by rfl) T.g_lowest_pair T.F_lowest_pair.kp T.b_lowest_pair (takes_of rfl rfl rfl rfl) (qa_cons (qx_namF 0) (qa_cons (qx_namF 2) qa_nil)) (hfs := (len_cons (len_cons (fun _ _ _ h => len_nil h))))))))))
    (qss_one (qs_ret (qx_namF 2)))))
theorem sc_is_between : FnScope ["value", "least", "most"] ["value", "least", "most"] (defScope s_is_between) := ⟨rfl, rfl, rfl, by decide +kernel, rfl, by decide +kernel, by decide +kernel⟩
theorem ok_is_between (T : Txt K mg cl fa fd) : FnOk P w K mg base (L2.CX P w) 2 (fa 4) (fd 4) ["value", "least", "most"] (spD K cl 3 [] r_is_between) :=
  fnD T.F_is_between sc_is_between rfl (by decide) fun cdv A outer s H E vf hr =>
   (qss_one (qs_ret (qx_and (qx_callB call_isA (drc_isi T.it) (by rfl) T.n_isinstance (by rfl) (qa_cons (qx_namF 0) (qa_cons (qx_ty (n := "int") (by rfl) T.n_int (by rfl)) qa_nil))) (qx_and (qx_not (qx_callB call_isA (drc_isi T.it) (by rfl) T.n_isinstance (by rfl) (qa_cons (qx_namF 0) (qa_cons (qx_ty (n := "bool") (by rfl) T.n_bool (by rfl)) qa_nil)))) (qx_one (qx_chain op_leA dr_le op_leA dr_le (qx_namF 1) (qx_namF 0) (qx_namF 2)))))))
theorem sc_Joins_is_proper : FnScope ["self", "pair", "most", "text", "row", "left", "right", "letter"] ["self", "pair"] (defScope s_Joins_is_proper) := ⟨rfl, rfl, rfl, by decide +kernel, rfl, by decide +kernel, by decide +kernel⟩
theorem ok_Joins_is_proper (T : Txt K mg cl fa fd) : FnOk P w K mg base (L2.CX P w) 4 (fa 5) (fd 5) ["self", "pair"] (spD K cl 2 [] r_Joins_is_proper) :=
  fnD T.F_Joins_is_proper sc_Joins_is_proper rfl (by decide) fun cdv A outer s H E vf hr =>
   (qss_cons (qs_unp (qx_namF 1) (qg_tup (qgs_cons (qg_name 5 (sc_Joins_is_proper).nd rfl (by first | exact Or.inl rfl | exact Or.inr rfl)) (qgs_cons (qg_name 6 (sc_Joins_is_proper).nd rfl (by first | exact Or.inl rfl | exact Or.inr rfl)) qgs_nil))))
    (qss_cons (qs_set 2 (sc_Joins_is_proper).nd rfl (by first | exact Or.inl rfl | exact Or.inr rfl) (qx_sub (qx_callB call_lenA dr_len (by rfl) T.n_len (by rfl) (qa_cons (qx_fld T.tab "texts" (qx_namF 0)) qa_nil)) qx_int))
    (qss_cons (qs_if (qt_w (qw_or (qt_not (qt_tru (qx_fnB (ok_is_between T) (hr.mono (by decide)) (by rfl) T.g_is_between T.F_is_between.kp T.b_is_between (takes_of rfl rfl rfl rfl) (qa_cons (qx_namF 5) (qa_cons qx_int (qa_cons (qx_namF 2) qa_nil))) (hfs := (len_cons (len_cons (len_cons (fun _ _ _ h => len_nil h)))))))) (qw_1o (qt_not (qt_tru (qx_fnB (ok_is_between T) (hr.mono (by decide)) (by rfl) T.g_is_between T.F_is_between.kp T.b_is_between (takes_of rfl rfl rfl rfl) (qa_cons (qx_namF 6) (qa_cons qx_int (qa_cons (qx_namF 2) qa_nil))) (hfs := (len_cons (len_cons (len_cons (fun _ _ _ h => len_nil h)))))))))))
    (qss_one (qs_ret qx_bl))
    qss_nil)
    (qss_cons (qs_set 3 (sc_Joins_is_proper).nd rfl (by first | exact Or.inl rfl | exact Or.inr rfl) (qx_frz (qx_add (qx_sub1 (hu_of hr) (qx_fld T.tab "texts" (qx_namF 0)) (qx_namF 5)) (qx_sub1 (hu_of hr) (qx_fld T.tab "texts" (qx_namF 0)) (qx_namF 6)))))
    (qss_cons (qs_if (qt_cmp op_gtA dr_gt (qx_callB call_lenA dr_len (by rfl) T.n_len (by rfl) (qa_cons (qx_namF 3) qa_nil)) (qx_gint 40 (by rfl) T.c_LONGEST_PIECE) (nomark _))
    (qss_one (qs_ret qx_bl))
    qss_nil)
    (qss_cons (qs_set 4 (sc_Joins_is_proper).nd rfl (by first | exact Or.inl rfl | exact Or.inr rfl) (qx_callTy (call_tupleA rfl) dr_tuple (by rfl) T.n_tuple (by rfl) (qa_cons (qx_lc (own := [("letter", 7)]) (sc_Joins_is_proper).nd (qi_seq (qx_namF 3)) (blkOk_by (by rfl)) (fun _ _ _ _ _ => (qg_name 7 (sc_Joins_is_proper).nd rfl (by first | exact Or.inl rfl | exact Or.inr rfl))) (fun _ _ _ _ _ => qts_nil) (fun _ _ _ _ _ => (qx_sub1 (hu_of hr) (qx_fld T.tab "numbers" (qx_namF 0)) (qx_namF 7)))) qa_nil)))
    (qss_one (qs_ret (qx_cmp (op_eqA hr.units) dr_eq (qx_fnB (ok_cut_row T) (hr.mono (by decide)) (by rfl) T.g_cut_row T.F_cut_row.kp T.b_cut_row (takes_of rfl rfl rfl rfl) (qa_cons (qx_fld T.tab "ranks" (qx_namF 0)) (qa_cons (qx_callB call_lenA dr_len (by rfl) T.n_len (by rfl) (qa_cons (qx_fld T.tab "alphabet" (qx_namF 0)) qa_nil)) (qa_cons (qx_namF 4) qa_nil))) (hfs := (len_cons (len_cons (len_cons (fun _ _ _ h => len_nil h)))))) (qx_namF 1) (nomark _))))))))))
theorem sc_NotProper_init : FnScope ["self", "rank"] ["self", "rank"] (defScope s_NotProper_init) := ⟨rfl, rfl, rfl, by decide +kernel, rfl, by decide +kernel, by decide +kernel⟩
theorem ok_NotProper_init (T : Txt K mg cl fa fd) : FnOk P w K mg base (L2.CX P w) 2 (fa 6) (fd 6) ["self", "rank"] (spE K ["rank"]) :=
  fnE1 T.F_NotProper_init sc_NotProper_init rfl rfl rfl
theorem sc_Joins_take : FnScope ["self", "pair", "rank", "text"] ["self", "pair"] (defScope s_Joins_take) := ⟨rfl, rfl, rfl, by decide +kernel, rfl, by decide +kernel, by decide +kernel⟩
theorem ok_Joins_take (T : Txt K mg cl fa fd) : FnOk P w K mg base (L2.CX P w) 5 (fa 7) (fd 7) ["self", "pair"] (spD K cl 2 [0] r_Joins_take) :=
  fnD T.F_Joins_take sc_Joins_take rfl (by decide) fun cdv A outer s H E vf hr =>
   (qss_cons (qs_set 2 (sc_Joins_take).nd rfl (by first | exact Or.inl rfl | exact Or.inr rfl) (qx_callB call_lenA dr_len (by rfl) T.n_len (by rfl) (qa_cons (qx_fld T.tab "pairs" (qx_name 0)) qa_nil)))
    (qss_cons (qs_if (qt_not (qt_tru (qx_methB T.c_Joins T.m_Joins_is_proper (ok_Joins_is_proper T) (hr.mono (by decide)) T.b_Joins_is_proper (takes_of rfl rfl rfl rfl) (qx_name 0) (qa_cons (qx_namF 1) qa_nil) (hfs := (fun ρ xs ρ' h => congrArg (· + 1) ((len_cons (fun _ _ _ h => len_nil h)) ρ xs ρ' h))))))
    (qss_one (qs_raise T.e_NotProper T.i_NotProper_init T.t_NotProper_init (ok_NotProper_init T) (hr.mono (by decide)) T.b_NotProper_init (takes_of rfl rfl rfl rfl) (by rfl) T.g_NotProper (qa_cons (qx_namF 2) qa_nil)))
    qss_nil)
    (qss_cons (qs_set 3 (sc_Joins_take).nd rfl (by first | exact Or.inl rfl | exact Or.inr rfl) (qx_frz (qx_add (qx_sub1 (hu_of hr) (qx_fld T.tab "texts" (qx_name 0)) (qx_sub1 (hu_of hr) (qx_namF 1) qx_int)) (qx_sub1 (hu_of hr) (qx_fld T.tab "texts" (qx_name 0)) (qx_sub1 (hu_of hr) (qx_namF 1) qx_int)))))
    (qss_cons (qs_fset 0 "pairs" T.tab (qx_add (qx_fld T.tab "pairs" (qx_name 0)) (qx_tup (qa_cons (qx_namF 1) qa_nil))))
    (qss_cons (qs_put (hu_of hr) (qp_fld 0 "numbers" T.tab) (qx_namF 3) (qx_callB call_lenA dr_len (by rfl) T.n_len (by rfl) (qa_cons (qx_fld T.tab "texts" (qx_name 0)) qa_nil)))
    (qss_cons (qs_expr (qx_append (qp_fld 0 "texts" T.tab) (qa_cons (qx_namF 3) qa_nil)))
    (qss_cons (qs_put (hu_of hr) (qp_fld 0 "ranks" T.tab) (qx_namF 1) (qx_namF 2))
    (qss_one (qs_fset 0 "longest" T.tab (qx_callB (call_max2 rfl) dr_max2 (by rfl) T.n_max (by rfl) (qa_cons (qx_fld T.tab "longest" (qx_name 0)) (qa_cons (qx_callB call_lenA dr_len (by rfl) T.n_len (by rfl) (qa_cons (qx_namF 3) qa_nil)) qa_nil))))))))))))
theorem sc_InvalidAlphabet_init : FnScope ["self", "alphabet"] ["self", "alphabet"] (defScope s_InvalidAlphabet_init) := ⟨rfl, rfl, rfl, by decide +kernel, rfl, by decide +kernel, by decide +kernel⟩
theorem ok_InvalidAlphabet_init (T : Txt K mg cl fa fd) : FnOk P w K mg base (L2.CX P w) 2 (fa 8) (fd 8) ["self", "alphabet"] (spE K ["alphabet"]) :=
  fnE1 T.F_InvalidAlphabet_init sc_InvalidAlphabet_init rfl rfl rfl
theorem sc_is_alphabet : FnScope ["alphabet", "sign", "at"] ["alphabet"] (defScope s_is_alphabet) := ⟨rfl, rfl, rfl, by decide +kernel, rfl, by decide +kernel, by decide +kernel⟩
theorem ok_is_alphabet (T : Txt K mg cl fa fd) : FnOk P w K mg base (L2.CX P w) 2 (fa 9) (fd 9) ["alphabet"] (spD K cl 1 [] r_is_alphabet) :=
  fnD T.F_is_alphabet sc_is_alphabet rfl (by decide) fun cdv A outer s H E vf hr =>
   (qss_cons (qs_if (qt_not (qt_chain op_leA dr_le op_leA dr_le qx_int (qx_callB call_lenA dr_len (by rfl) T.n_len (by rfl) (qa_cons (qx_namF 0) qa_nil)) (qx_gint 30 (by rfl) T.c_MOST_LETTERS)))
    (qss_one (qs_ret qx_bl))
    qss_nil)
    (qss_cons (qs_for (passes_of rfl) (qi_seq (qx_namF 0)) (qg_name 1 (sc_is_alphabet).nd rfl (by first | exact Or.inl rfl | exact Or.inr rfl))
    (qss_one (qs_if (qt_not (qt_chain op_leA dr_le op_leA dr_le qx_str (qx_namF 1) qx_str))
    (qss_one (qs_ret qx_bl))
    qss_nil)))
    (qss_cons (qs_for (passes_of rfl) (qi_range2 (by rfl) T.n_range (qa_cons qx_int (qa_cons (qx_callB call_lenA dr_len (by rfl) T.n_len (by rfl) (qa_cons (qx_namF 0) qa_nil)) qa_nil))) (qg_name 2 (sc_is_alphabet).nd rfl (by first | exact Or.inl rfl | exact Or.inr rfl))
    (qss_one (qs_if (qt_cmp op_geA dr_ge (qx_sub1 (hu_of hr) (qx_namF 0) (qx_sub (qx_namF 2) qx_int)) (qx_sub1 (hu_of hr) (qx_namF 0) (qx_namF 2)) (nomark _))
    (qss_one (qs_ret qx_bl))
    qss_nil)))
    (qss_one (qs_ret qx_bl)))))
theorem sc_checked_alphabet : FnScope ["alphabet"] ["alphabet"] (defScope s_checked_alphabet) := ⟨rfl, rfl, rfl, by decide +kernel, rfl, by decide +kernel, by decide +kernel⟩
theorem ok_checked_alphabet (T : Txt K mg cl fa fd) : FnOk P w K mg base (L2.CX P w) 4 (fa 10) (fd 10) ["alphabet"] (spD K cl 1 [] r_checked_alphabet) :=
  fnD T.F_checked_alphabet sc_checked_alphabet rfl (by decide) fun cdv A outer s H E vf hr =>
   (qss_cons (qs_if (qt_not (qt_tru (qx_fnB (ok_is_alphabet T) (hr.mono (by decide)) (by rfl) T.g_is_alphabet T.F_is_alphabet.kp T.b_is_alphabet (takes_of rfl rfl rfl rfl) (qa_cons (qx_namF 0) qa_nil) (hfs := (len_cons (fun _ _ _ h => len_nil h))))))
    (qss_one (qs_raise T.e_InvalidAlphabet T.i_InvalidAlphabet_init T.t_InvalidAlphabet_init (ok_InvalidAlphabet_init T) (hr.mono (by decide)) T.b_InvalidAlphabet_init (takes_of rfl rfl rfl rfl) (by rfl) T.g_InvalidAlphabet (qa_cons (qx_namF 0) qa_nil)))
    qss_nil)
    (qss_one (qs_ret (qx_namF 0))))
theorem sc_Joins_init : FnScope ["self", "alphabet", "pairs", "pair", "at", "letter"] ["self", "alphabet", "pairs"] (defScope s_Joins_init) := ⟨rfl, rfl, rfl, by decide +kernel, rfl, by decide +kernel, by decide +kernel⟩
theorem ok_Joins_init (T : Txt K mg cl fa fd) : FnOk P w K mg base (L2.CX P w) 6 (fa 11) (fd 11) ["self", "alphabet", "pairs"] (spD K cl 3 [0] r_Joins_init) :=
  fnD T.F_Joins_init sc_Joins_init rfl (by decide) fun cdv A outer s H E vf hr =>
   (qss_cons (qs_fset 0 "alphabet" T.tab (qx_fnB (ok_checked_alphabet T) (hr.mono (by decide)) (by rfl) T.g_checked_alphabet T.F_checked_alphabet.kp T.b_checked_alphabet (takes_of rfl rfl rfl rfl) (qa_cons (qx_namF 1) qa_nil) (hfs := (len_cons (fun _ _ _ h => len_nil h)))))
    (qss_cons (qs_fset 0 "pairs" T.tab (qx_tup qa_nil))
    (qss_cons (qs_fset 0 "texts" T.tab (qx_callTy (call_listA rfl) dr_list (by rfl) T.n_list (by rfl) (qa_cons (qx_namF 1) qa_nil)))
    (qss_cons (qs_fset 0 "ranks" T.tab qx_newT)
    (qss_cons (qs_fset 0 "numbers" T.tab (qx_dc (own := [("at", 4), ("letter", 5)]) (sc_Joins_init).nd (qi_enum (by rfl) T.n_enumerate (qa_cons (qx_namF 1) qa_nil)) (blkOk_by (by rfl)) (fun _ _ _ _ _ => (qg_tup (qgs_cons (qg_name 4 (sc_Joins_init).nd rfl (by first | exact Or.inl rfl | exact Or.inr rfl)) (qgs_cons (qg_name 5 (sc_Joins_init).nd rfl (by first | exact Or.inl rfl | exact Or.inr rfl)) qgs_nil)))) (fun _ _ _ _ _ => qts_nil) (fun _ _ _ _ _ => (qx_namF 5)) (fun _ _ _ _ _ => (qx_namF 4))))
    (qss_cons (qs_fset 0 "longest" T.tab qx_int)
    (qss_one (qs_for (passes_of rfl) (qi_seq (qx_namF 2)) (qg_name 3 (sc_Joins_init).nd rfl (by first | exact Or.inl rfl | exact Or.inr rfl))
    (qss_one (qs_expr (qx_methL 0 (sl := [none]) T.c_Joins T.m_Joins_take (ok_Joins_take T) (hr.mono (by decide)) T.b_Joins_take (takes_of rfl rfl rfl rfl) (qm_val (qx_callTy (call_tupleA rfl) dr_tuple (by rfl) T.n_tuple (by rfl) (qa_cons (qx_namF 3) qa_nil)) qm_nil))))))))))))
theorem sc_law_ask : FnScope ["alphabet", "pairs", "kinds", "e"] ["alphabet", "pairs"] (defScope s_law_ask) := ⟨rfl, rfl, rfl, by decide +kernel, rfl, by decide +kernel, by decide +kernel⟩
theorem ok_law_ask (T : Txt K mg cl fa fd) : FnOk P w K mg base (L2.CX P w) 8 (fa 12) (fd 12) ["alphabet", "pairs"] (spD K cl 2 [] r_law_ask) :=
  fnD T.F_law_ask sc_law_ask rfl (by decide) fun cdv A outer s H E vf hr =>
   (qss_cons (qs_set 2 (sc_law_ask).nd rfl (by first | exact Or.inl rfl | exact Or.inr rfl) (qx_lst qa_nil))
    (qss_cons (qs_try_as 3 (xm := xm_law_ask) T.xk_law_ask ⟨by rfl, by decide, Or.inl T.g_JoinError⟩ (takes_of rfl rfl rfl rfl) (sc_law_ask).nd (fun W pn xe tk po => (qss_one (qs_expr (qx_append (qp_name 2) (qa_cons (qx_tup (qa_cons qx_str (qa_cons (qx_chk (qx_fld T.tab "pairs" (qx_make (sl := [none, none]) T.k_Joins (ok_Joins_init T) (hr.mono (by decide)) (by rfl) T.g_Joins T.b_Joins_init tk (qm_val (qx_namF 0) (qm_val (qx_namF 1) qm_nil))))) qa_nil))) qa_nil)))))
    (fun a oe c0 d pn fs0 hz hf hx => (qss_cons (qs_if (qt_tru (qx_isX 3 T.it (T.exi _ hx) hz hf (by rfl) T.n_isinstance (qx_cls "InvalidAlphabet" (by rfl) T.g_InvalidAlphabet)))
    (qss_one (qs_expr (qx_append (qp_name 2) (qa_cons (qx_tup (qa_cons qx_str (qa_cons (qx_xf 3 (f := "alphabet") (T.xfc _ hx) (T.xfn _ hx _ (exf_law_ask_alphabet hx)) hz hf) qa_nil))) qa_nil))))
    qss_nil)
    (qss_cons (qs_if (qt_tru (qx_isX 3 T.it (T.exi _ hx) hz hf (by rfl) T.n_isinstance (qx_cls "NotProper" (by rfl) T.g_NotProper)))
    (qss_one (qs_expr (qx_append (qp_name 2) (qa_cons (qx_tup (qa_cons qx_str (qa_cons (qx_xf 3 (f := "rank") (T.xfc _ hx) (T.xfn _ hx _ (exf_law_ask_rank hx)) hz hf) qa_nil))) qa_nil))))
    qss_nil)
    (qss_cons (qs_if (qt_tru (qx_isX 3 T.it (T.exi _ hx) hz hf (by rfl) T.n_isinstance (qx_tup (qa_cons (qx_cls "InvalidModel" (by rfl) T.g_InvalidModel) (qa_cons (qx_cls "InvalidNumber" (by rfl) T.g_InvalidNumber) (qa_cons (qx_cls "InvalidText" (by rfl) T.g_InvalidText) (qa_cons (qx_cls "NoChance" (by rfl) T.g_NoChance) (qa_cons (qx_cls "NoPiece" (by rfl) T.g_NoPiece) (qa_cons (qx_cls "NotCut" (by rfl) T.g_NotCut) (qa_cons (qx_cls "UnknownSign" (by rfl) T.g_UnknownSign) qa_nil))))))))))
    (qss_one (qs_expr (qx_append (qp_name 2) (qa_cons (qx_tup (qa_cons qx_str (qa_cons qx_str qa_nil))) qa_nil))))
    qss_nil)
    (qss_one (qs_if (qt_not (qt_tru (qx_isX 3 T.it (T.exi _ hx) hz hf (by rfl) T.n_isinstance (qx_ty (n := "ValueError") (by rfl) T.n_ValueError (by rfl)))))
    (qss_one (qs_expr (qx_append (qp_name 2) (qa_cons (qx_tup (qa_cons qx_str (qa_cons qx_str qa_nil))) qa_nil))))
    qss_nil)))))))
    (qss_cons (qs_if (qt_cmp (op_eqA hr.units) dr_eq (qx_callB call_lenA dr_len (by rfl) T.n_len (by rfl) (qa_cons (qx_name 2) qa_nil)) qx_int (nomark _))
    (qss_one (qs_ret (qx_sub1 (hu_of hr) (qx_name 2) qx_int)))
    qss_nil)
    (qss_one (qs_ret (qx_tup (qa_cons qx_str (qa_cons qx_str qa_nil))))))))
theorem sc_law_letters : FnScope ["alphabet", "text", "sign"] ["alphabet", "text"] (defScope s_law_letters) := ⟨rfl, rfl, rfl, by decide +kernel, rfl, by decide +kernel, by decide +kernel⟩
theorem ok_law_letters (T : Txt K mg cl fa fd) : FnOk P w K mg base (L2.CX P w) 2 (fa 13) (fd 13) ["alphabet", "text"] (spD K cl 2 [] r_law_letters) :=
  fnD T.F_law_letters sc_law_letters rfl (by decide) fun cdv A outer s H E vf hr =>
   (qss_one (qs_ret (qx_lc (own := [("sign", 2)]) (sc_law_letters).nd (qi_seq (qx_namF 1)) (blkOk_by (by rfl)) (fun _ _ _ _ _ => (qg_name 2 (sc_law_letters).nd rfl (by first | exact Or.inl rfl | exact Or.inr rfl))) (fun _ _ _ _ _ => qts_nil) (fun _ _ _ _ _ => (qx_meth PySem.F.plainAttrs_str PySem.F.slot_str_index PySem.F.type_str_index mt_sindex drm_sidx (qx_namF 0) (qa_cons (qx_namF 2) qa_nil))))))
theorem sc_law_join_all : FnScope ["row", "pair", "made", "joined", "gone", "k"] ["row", "pair", "made"] (defScope s_law_join_all) := ⟨rfl, rfl, rfl, by decide +kernel, rfl, by decide +kernel, by decide +kernel⟩
theorem ok_law_join_all (T : Txt K mg cl fa fd) : FnOk P w K mg base (L2.CX P w) 2 (fa 14) (fd 14) ["row", "pair", "made"] (spD K cl 3 [] r_law_join_all) :=
  fnD T.F_law_join_all sc_law_join_all rfl (by decide) fun cdv A outer s H E vf hr =>
   (qss_cons (qs_set 3 (sc_law_join_all).nd rfl (by first | exact Or.inl rfl | exact Or.inr rfl) (qx_lst qa_nil))
    (qss_cons (qs_set 4 (sc_law_join_all).nd rfl (by first | exact Or.inl rfl | exact Or.inr rfl) qx_bl)
    (qss_cons (qs_for (passes_of rfl) (qi_range1 (by rfl) T.n_range (qa_cons (qx_callB call_lenA dr_len (by rfl) T.n_len (by rfl) (qa_cons (qx_namF 0) qa_nil)) qa_nil)) (qg_name 5 (sc_law_join_all).nd rfl (by first | exact Or.inl rfl | exact Or.inr rfl))
    (qss_one (qs_if (qt_tru (qx_namF 4))
    (qss_one (qs_set 4 (sc_law_join_all).nd rfl (by first | exact Or.inl rfl | exact Or.inr rfl) qx_bl))
    (qss_one (qs_if (qt_w (qw_and (qt_cmp op_ltA dr_lt (qx_add (qx_namF 5) qx_int) (qx_callB call_lenA dr_len (by rfl) T.n_len (by rfl) (qa_cons (qx_namF 0) qa_nil)) (nomark _)) (qw_1 (qt_cmp (op_eqA hr.units) dr_eq (qx_tup (qa_cons (qx_sub1 (hu_of hr) (qx_namF 0) (qx_namF 5)) (qa_cons (qx_sub1 (hu_of hr) (qx_namF 0) (qx_add (qx_namF 5) qx_int)) qa_nil))) (qx_namF 1) (nomark _)))))
    (qss_cons (qs_expr (qx_append (qp_name 3) (qa_cons (qx_namF 2) qa_nil)))
    (qss_one (qs_set 4 (sc_law_join_all).nd rfl (by first | exact Or.inl rfl | exact Or.inr rfl) qx_bl)))
    (qss_one (qs_expr (qx_append (qp_name 3) (qa_cons (qx_sub1 (hu_of hr) (qx_namF 0) (qx_namF 5)) qa_nil)))))))))
    (qss_one (qs_ret (qx_take 3))))))
theorem sc_law_staged : FnScope ["many", "pairs", "row", "rank"] ["many", "pairs", "row"] (defScope s_law_staged) := ⟨rfl, rfl, rfl, by decide +kernel, rfl, by decide +kernel, by decide +kernel⟩
theorem ok_law_staged (T : Txt K mg cl fa fd) : FnOk P w K mg base (L2.CX P w) 3 (fa 15) (fd 15) ["many", "pairs", "row"] (spD K cl 3 [] r_law_staged) :=
  fnD T.F_law_staged sc_law_staged rfl (by decide) fun cdv A outer s H E vf hr =>
   (qss_cons (qs_for (passes_of rfl) (qi_range1 (by rfl) T.n_range (qa_cons (qx_callB call_lenA dr_len (by rfl) T.n_len (by rfl) (qa_cons (qx_namF 1) qa_nil)) qa_nil)) (qg_name 3 (sc_law_staged).nd rfl (by first | exact Or.inl rfl | exact Or.inr rfl))
    (qss_one (qs_set 2 (sc_law_staged).nd rfl (by first | exact Or.inl rfl | exact Or.inr rfl) (qx_frz (qx_fnB (ok_law_join_all T) (hr.mono (by decide)) (by rfl) T.g_law_join_all T.F_law_join_all.kp T.b_law_join_all (takes_of rfl rfl rfl rfl) (qa_cons (qx_namF 2) (qa_cons (qx_sub1 (hu_of hr) (qx_namF 1) (qx_namF 3)) (qa_cons (qx_add (qx_namF 0) (qx_namF 3)) qa_nil))) (hfs := (len_cons (len_cons (len_cons (fun _ _ _ h => len_nil h))))))))))
    (qss_one (qs_ret (qx_namF 2))))
theorem sc_law_is_proper : FnScope ["alphabet", "texts", "pairs", "pair", "piece", "text"] ["alphabet", "texts", "pairs", "pair"] (defScope s_law_is_proper) := ⟨rfl, rfl, rfl, by decide +kernel, rfl, by decide +kernel, by decide +kernel⟩
theorem ok_law_is_proper (T : Txt K mg cl fa fd) : FnOk P w K mg base (L2.CX P w) 4 (fa 16) (fd 16) ["alphabet", "texts", "pairs", "pair"] (spD K cl 4 [] r_law_is_proper) :=
  fnD T.F_law_is_proper sc_law_is_proper rfl (by decide) fun cdv A outer s H E vf hr =>
   (qss_cons (qs_for (passes_of rfl) (qi_seq (qx_namF 3)) (qg_name 4 (sc_law_is_proper).nd rfl (by first | exact Or.inl rfl | exact Or.inr rfl))
    (qss_one (qs_if (qt_not (qt_chain op_leA dr_le op_ltA dr_lt qx_int (qx_namF 4) (qx_callB call_lenA dr_len (by rfl) T.n_len (by rfl) (qa_cons (qx_namF 1) qa_nil))))
    (qss_one (qs_ret qx_bl))
    qss_nil)))
    (qss_cons (qs_set 5 (sc_law_is_proper).nd rfl (by first | exact Or.inl rfl | exact Or.inr rfl) (qx_frz (qx_add (qx_sub1 (hu_of hr) (qx_namF 1) (qx_sub1 (hu_of hr) (qx_namF 3) qx_int)) (qx_sub1 (hu_of hr) (qx_namF 1) (qx_sub1 (hu_of hr) (qx_namF 3) qx_int)))))
    (qss_cons (qs_if (qt_cmp op_gtA dr_gt (qx_callB call_lenA dr_len (by rfl) T.n_len (by rfl) (qa_cons (qx_namF 5) qa_nil)) qx_int (nomark _))
    (qss_one (qs_ret qx_bl))
    qss_nil)
    (qss_one (qs_ret (qx_cmp (op_eqA hr.units) dr_eq (qx_fn (sl := [none, none, none]) (ok_law_staged T) (hr.mono (by decide)) (by rfl) T.g_law_staged T.F_law_staged.kp T.b_law_staged (takes_of rfl rfl rfl rfl) (qm_val (qx_callB call_lenA dr_len (by rfl) T.n_len (by rfl) (qa_cons (qx_namF 0) qa_nil)) (qm_val (qx_namF 2) (qm_val (qx_frz (qx_fnB (ok_law_letters T) (hr.mono (by decide)) (by rfl) T.g_law_letters T.F_law_letters.kp T.b_law_letters (takes_of rfl rfl rfl rfl) (qa_cons (qx_namF 0) (qa_cons (qx_namF 5) qa_nil)) (hfs := (len_cons (len_cons (fun _ _ _ h => len_nil h)))))) qm_nil)))) (qx_lst (qa_cons (qx_sub1 (hu_of hr) (qx_namF 3) qx_int) (qa_cons (qx_sub1 (hu_of hr) (qx_namF 3) qx_int) qa_nil))) (nomark _)))))))
theorem sc_law_due : FnScope ["alphabet", "pairs", "texts", "rank"] ["alphabet", "pairs"] (defScope s_law_due) := ⟨rfl, rfl, rfl, by decide +kernel, rfl, by decide +kernel, by decide +kernel⟩
theorem ok_law_due (T : Txt K mg cl fa fd) : FnOk P w K mg base (L2.CX P w) 5 (fa 17) (fd 17) ["alphabet", "pairs"] (spD K cl 2 [] r_law_due) :=
  fnD T.F_law_due sc_law_due rfl (by decide) fun cdv A outer s H E vf hr =>
   (qss_cons (qs_set 2 (sc_law_due).nd rfl (by first | exact Or.inl rfl | exact Or.inr rfl) (qx_callTy (call_listA rfl) dr_list (by rfl) T.n_list (by rfl) (qa_cons (qx_namF 0) qa_nil)))
    (qss_cons (qs_for (passes_of rfl) (qi_range1 (by rfl) T.n_range (qa_cons (qx_callB call_lenA dr_len (by rfl) T.n_len (by rfl) (qa_cons (qx_namF 1) qa_nil)) qa_nil)) (qg_name 3 (sc_law_due).nd rfl (by first | exact Or.inl rfl | exact Or.inr rfl))
    (qss_cons (qs_if (qt_not (qt_tru (qx_fnB (ok_law_is_proper T) (hr.mono (by decide)) (by rfl) T.g_law_is_proper T.F_law_is_proper.kp T.b_law_is_proper (takes_of rfl rfl rfl rfl) (qa_cons (qx_namF 0) (qa_cons (qx_name 2) (qa_cons (qx_slice (qx_namF 1) qo_none (qo_some (qx_namF 3))) (qa_cons (qx_sub1 (hu_of hr) (qx_namF 1) (qx_namF 3)) qa_nil)))) (hfs := (len_cons (len_cons (len_cons (len_cons (fun _ _ _ h => len_nil h)))))))))
    (qss_one (qs_ret (qx_namF 3)))
    qss_nil)
    (qss_one (qs_expr (qx_append (qp_name 2) (qa_cons (qx_frz (qx_add (qx_sub1 (hu_of hr) (qx_name 2) (qx_sub1 (hu_of hr) (qx_sub1 (hu_of hr) (qx_namF 1) (qx_namF 3)) qx_int)) (qx_sub1 (hu_of hr) (qx_name 2) (qx_sub1 (hu_of hr) (qx_sub1 (hu_of hr) (qx_namF 1) (qx_namF 3)) qx_int)))) qa_nil))))))
    (qss_one (qs_ret qx_non))))
theorem sc_law_numbers : FnScope ["cell", "at", "many", "great", "rest", "numbers", "k", "mixed"] ["cell", "at", "many"] (defScope s_law_numbers) := ⟨rfl, rfl, rfl, by decide +kernel, rfl, by decide +kernel, by decide +kernel⟩
theorem ok_law_numbers (T : Txt K mg cl fa fd) : FnOk P w K mg base (L2.CX P w) 2 (fa 18) (fd 18) ["cell", "at", "many"] (spD K cl 3 [] r_law_numbers) :=
  fnD T.F_law_numbers sc_law_numbers rfl (by decide) fun cdv A outer s H E vf hr =>
   (qss_cons (qs_set 3 (sc_law_numbers).nd rfl (by first | exact Or.inl rfl | exact Or.inr rfl) (qx_cmp op_geA dr_ge (qx_callB call_abs dr_abs (by rfl) T.n_abs (by rfl) (qa_cons (qx_callTy call_int1 dr_int (by rfl) T.n_int (by rfl) (qa_cons (qx_namF 0) qa_nil)) qa_nil)) (qx_pow qx_int qx_int) (nomark _)))
    (qss_cons (qs_set 4 (sc_law_numbers).nd rfl (by first | exact Or.inl rfl | exact Or.inr rfl) (qx_frz (qx_add (qx_mul qx_int (qx_callB call_abs dr_abs (by rfl) T.n_abs (by rfl) (qa_cons (qx_callTy call_int1 dr_int (by rfl) T.n_int (by rfl) (qa_cons (qx_namF 0) qa_nil)) qa_nil))) (qx_callTy call_int1 dr_int (by rfl) T.n_int (by rfl) (qa_cons (qx_cmp op_ltA dr_lt (qx_namF 0) qx_int (nomark _)) qa_nil)))))
    (qss_cons (qs_set 5 (sc_law_numbers).nd rfl (by first | exact Or.inl rfl | exact Or.inr rfl) (qx_lst qa_nil))
    (qss_cons (qs_for (passes_of rfl) (qi_range1 (by rfl) T.n_range (qa_cons (qx_namF 2) qa_nil)) (qg_name 6 (sc_law_numbers).nd rfl (by first | exact Or.inl rfl | exact Or.inr rfl))
    (qss_one (qs_if (qt_tru (qx_namF 3))
    (qss_cons (qs_expr (qx_append (qp_name 5) (qa_cons (qx_mod (qx_callTy call_int1 dr_int (by rfl) T.n_int (by rfl) (qa_cons (qx_namF 4) qa_nil)) qx_int) qa_nil)))
    (qss_one (qs_set 4 (sc_law_numbers).nd rfl (by first | exact Or.inl rfl | exact Or.inr rfl) (qx_div (qx_namF 4) qx_int))))
    (qss_cons (qs_set 7 (sc_law_numbers).nd rfl (by first | exact Or.inl rfl | exact Or.inr rfl) (qx_mod (qx_callTy call_int1 dr_int (by rfl) T.n_int (by rfl) (qa_cons (qx_add (qx_add (qx_add (qx_mul (qx_namF 4) qx_int) (qx_mul (qx_namF 1) qx_int)) (qx_mul (qx_namF 6) qx_int)) qx_int) qa_nil)) qx_int))
    (qss_cons (qs_set 7 (sc_law_numbers).nd rfl (by first | exact Or.inl rfl | exact Or.inr rfl) (qx_mod (qx_callTy call_int1 dr_int (by rfl) T.n_int (by rfl) (qa_cons (qx_add (qx_add (qx_mul (qx_namF 7) (qx_namF 7)) (qx_mul (qx_namF 6) qx_int)) qx_int) qa_nil)) qx_int))
    (qss_cons (qs_set 7 (sc_law_numbers).nd rfl (by first | exact Or.inl rfl | exact Or.inr rfl) (qx_mod (qx_callTy call_int1 dr_int (by rfl) T.n_int (by rfl) (qa_cons (qx_add (qx_add (qx_mul (qx_namF 7) (qx_namF 7)) (qx_mul (qx_namF 1) qx_int)) qx_int) qa_nil)) qx_int))
    (qss_one (qs_expr (qx_append (qp_name 5) (qa_cons (qx_mod (qx_callTy call_int1 dr_int (by rfl) T.n_int (by rfl) (qa_cons (qx_div (qx_namF 7) qx_int) qa_nil)) qx_int) qa_nil))))))))))
    (qss_one (qs_ret (qx_take 5)))))))
theorem sc_law_pairs : FnScope ["numbers", "alphabet", "pairs", "texts", "j", "seed", "left", "right", "odd", "fine"] ["numbers", "alphabet"] (defScope s_law_pairs) := ⟨rfl, rfl, rfl, by decide +kernel, rfl, by decide +kernel, by decide +kernel⟩
theorem ok_law_pairs (T : Txt K mg cl fa fd) : FnOk P w K mg base (L2.CX P w) 5 (fa 19) (fd 19) ["numbers", "alphabet"] (spD K cl 2 [] r_law_pairs) :=
  fnD T.F_law_pairs sc_law_pairs rfl (by decide) fun cdv A outer s H E vf hr =>
   (qss_cons (qs_set 2 (sc_law_pairs).nd rfl (by first | exact Or.inl rfl | exact Or.inr rfl) (qx_lst qa_nil))
    (qss_cons (qs_set 3 (sc_law_pairs).nd rfl (by first | exact Or.inl rfl | exact Or.inr rfl) (qx_callTy (call_listA rfl) dr_list (by rfl) T.n_list (by rfl) (qa_cons (qx_namF 1) qa_nil)))
    (qss_cons (qs_for (passes_of rfl) (qi_range1 (by rfl) T.n_range (qa_cons (qx_mod (qx_callTy call_int1 dr_int (by rfl) T.n_int (by rfl) (qa_cons (qx_sub1 (hu_of hr) (qx_namF 0) qx_int) qa_nil)) qx_int) qa_nil)) (qg_name 4 (sc_law_pairs).nd rfl (by first | exact Or.inl rfl | exact Or.inr rfl))
    (qss_cons (qs_set 5 (sc_law_pairs).nd rfl (by first | exact Or.inl rfl | exact Or.inr rfl) (qx_callTy call_int1 dr_int (by rfl) T.n_int (by rfl) (qa_cons (qx_sub1 (hu_of hr) (qx_namF 0) (qx_add qx_int (qx_mul qx_int (qx_namF 4)))) qa_nil)))
    (qss_cons (qs_set 6 (sc_law_pairs).nd rfl (by first | exact Or.inl rfl | exact Or.inr rfl) (qx_mod (qx_callTy call_int1 dr_int (by rfl) T.n_int (by rfl) (qa_cons (qx_namF 5) qa_nil)) (qx_add (qx_callB call_lenA dr_len (by rfl) T.n_len (by rfl) (qa_cons (qx_name 3) qa_nil)) qx_int)))
    (qss_cons (qs_set 7 (sc_law_pairs).nd rfl (by first | exact Or.inl rfl | exact Or.inr rfl) (qx_mod (qx_callTy call_int1 dr_int (by rfl) T.n_int (by rfl) (qa_cons (qx_sub1 (hu_of hr) (qx_namF 0) (qx_add qx_int (qx_mul qx_int (qx_namF 4)))) qa_nil)) (qx_add (qx_callB call_lenA dr_len (by rfl) T.n_len (by rfl) (qa_cons (qx_name 3) qa_nil)) qx_int)))
    (qss_cons (qs_if (qt_cmp (op_eqA hr.units) dr_eq (qx_mod (qx_callTy call_int1 dr_int (by rfl) T.n_int (by rfl) (qa_cons (qx_sub1 (hu_of hr) (qx_namF 0) qx_int) qa_nil)) qx_int) qx_int (nomark _))
    (qss_cons (qs_set 6 (sc_law_pairs).nd rfl (by first | exact Or.inl rfl | exact Or.inr rfl) (qx_sub (qx_callB call_lenA dr_len (by rfl) T.n_len (by rfl) (qa_cons (qx_name 3) qa_nil)) qx_int))
    (qss_one (qs_if (qt_cmp op_gtA dr_gt (qx_mod (qx_callTy call_int1 dr_int (by rfl) T.n_int (by rfl) (qa_cons (qx_sub1 (hu_of hr) (qx_namF 0) (qx_add qx_int (qx_mul qx_int (qx_namF 4)))) qa_nil)) qx_int) qx_int (nomark _))
    (qss_one (qs_set 7 (sc_law_pairs).nd rfl (by first | exact Or.inl rfl | exact Or.inr rfl) (qx_sub (qx_callB call_lenA dr_len (by rfl) T.n_len (by rfl) (qa_cons (qx_name 3) qa_nil)) qx_int)))
    qss_nil)))
    qss_nil)
    (qss_cons (qs_if (qt_w (qw_and (qt_cmp op_geA dr_ge (qx_namF 6) (qx_callB call_lenA dr_len (by rfl) T.n_len (by rfl) (qa_cons (qx_name 3) qa_nil)) (nomark _)) (qw_1 (qt_cmp op_gtA dr_gt (qx_mod (qx_callTy call_int1 dr_int (by rfl) T.n_int (by rfl) (qa_cons (qx_div (qx_namF 5) qx_int) qa_nil)) qx_int) qx_int (nomark _)))))
    (qss_one (qs_set 6 (sc_law_pairs).nd rfl (by first | exact Or.inl rfl | exact Or.inr rfl) qx_int))
    qss_nil)
    (qss_cons (qs_if (qt_w (qw_and (qt_cmp op_geA dr_ge (qx_namF 7) (qx_callB call_lenA dr_len (by rfl) T.n_len (by rfl) (qa_cons (qx_name 3) qa_nil)) (nomark _)) (qw_1 (qt_cmp op_gtA dr_gt (qx_mod (qx_callTy call_int1 dr_int (by rfl) T.n_int (by rfl) (qa_cons (qx_div (qx_namF 5) qx_int) qa_nil)) qx_int) qx_int (nomark _)))))
    (qss_one (qs_set 7 (sc_law_pairs).nd rfl (by first | exact Or.inl rfl | exact Or.inr rfl) qx_int))
    qss_nil)
    (qss_cons (qs_set 8 (sc_law_pairs).nd rfl (by first | exact Or.inl rfl | exact Or.inr rfl) (qx_sub1 (hu_of hr) (qx_lst (qa_cons (qx_neg qx_int) (qa_cons (qx_sub (qx_neg (qx_namF 7)) qx_int) (qa_cons (qx_frz (qx_add (qx_callB call_lenA dr_len (by rfl) T.n_len (by rfl) (qa_cons (qx_name 3) qa_nil)) qx_int)) (qa_cons (qx_pow qx_int qx_int) (qa_cons (qx_neg (qx_callB call_lenA dr_len (by rfl) T.n_len (by rfl) (qa_cons (qx_name 3) qa_nil))) qa_nil)))))) (qx_mod (qx_callTy call_int1 dr_int (by rfl) T.n_int (by rfl) (qa_cons (qx_div (qx_sub1 (hu_of hr) (qx_namF 0) (qx_add qx_int (qx_mul qx_int (qx_namF 4)))) qx_int) qa_nil)) qx_int)))
    (qss_cons (qs_if (qt_cmp (op_eqA hr.units) dr_eq (qx_mod (qx_callTy call_int1 dr_int (by rfl) T.n_int (by rfl) (qa_cons (qx_div (qx_namF 5) qx_int) qa_nil)) qx_int) qx_int (nomark _))
    (qss_one (qs_set 7 (sc_law_pairs).nd rfl (by first | exact Or.inl rfl | exact Or.inr rfl) (qx_namF 8)))
    qss_nil)
    (qss_cons (qs_if (qt_cmp (op_eqA hr.units) dr_eq (qx_mod (qx_callTy call_int1 dr_int (by rfl) T.n_int (by rfl) (qa_cons (qx_div (qx_namF 5) qx_int) qa_nil)) qx_int) qx_int (nomark _))
    (qss_one (qs_set 6 (sc_law_pairs).nd rfl (by first | exact Or.inl rfl | exact Or.inr rfl) (qx_namF 8)))
    qss_nil)
    (qss_cons (qs_set 9 (sc_law_pairs).nd rfl (by first | exact Or.inl rfl | exact Or.inr rfl) (qx_frz (qx_fnB (ok_law_is_proper T) (hr.mono (by decide)) (by rfl) T.g_law_is_proper T.F_law_is_proper.kp T.b_law_is_proper (takes_of rfl rfl rfl rfl) (qa_cons (qx_namF 1) (qa_cons (qx_name 3) (qa_cons (qx_name 2) (qa_cons (qx_tup (qa_cons (qx_namF 6) (qa_cons (qx_namF 7) qa_nil))) qa_nil)))) (hfs := (len_cons (len_cons (len_cons (len_cons (fun _ _ _ h => len_nil h)))))))))
    (qss_one (qs_if (qt_w (qw_or (qt_tru (qx_namF 9)) (qw_or (qt_cmp (op_eqA hr.units) dr_eq (qx_mod (qx_callTy call_int1 dr_int (by rfl) T.n_int (by rfl) (qa_cons (qx_div (qx_sub1 (hu_of hr) (qx_namF 0) (qx_add qx_int (qx_mod (qx_callTy call_int1 dr_int (by rfl) T.n_int (by rfl) (qa_cons (qx_namF 4) qa_nil)) qx_int))) (qx_add qx_int (qx_namF 4))) qa_nil)) qx_int) qx_int (nomark _)) (qw_1o (qt_cmp (op_eqA hr.units) dr_eq (qx_mod (qx_callTy call_int1 dr_int (by rfl) T.n_int (by rfl) (qa_cons (qx_sub1 (hu_of hr) (qx_namF 0) qx_int) qa_nil)) qx_int) qx_int (nomark _))))))
    (qss_cons (qs_if (qt_tru (qx_namF 9))
    (qss_one (qs_expr (qx_append (qp_name 3) (qa_cons (qx_frz (qx_add (qx_sub1 (hu_of hr) (qx_name 3) (qx_namF 6)) (qx_sub1 (hu_of hr) (qx_name 3) (qx_namF 7)))) qa_nil))))
    (qss_one (qs_expr (qx_append (qp_name 3) (qa_cons qx_str qa_nil)))))
    (qss_one (qs_expr (qx_append (qp_name 2) (qa_cons (qx_tup (qa_cons (qx_namF 6) (qa_cons (qx_namF 7) qa_nil))) qa_nil)))))
    qss_nil)))))))))))))
    (qss_one (qs_ret (qx_take 2))))))
theorem sc_law_same : FnScope ["actual", "expected", "k"] ["actual", "expected"] (defScope s_law_same) := ⟨rfl, rfl, rfl, by decide +kernel, rfl, by decide +kernel, by decide +kernel⟩
theorem ok_law_same (T : Txt K mg cl fa fd) : ∀ n, FnOk P w K mg base (L2.CX P w) (1 + n) (fa 20) (fd 20) ["actual", "expected"] (spD K cl 2 [] (r_law_same n))
  | 0 => fnStuck T.F_law_same sc_law_same rfl
  | n + 1 => by
    have ih := ok_law_same T n
    exact fnD (k := 1 + n) T.F_law_same sc_law_same rfl (by decide) fun cdv A outer s H E vf hr => (qss_cons (qs_if (qt_cmp op_isA dr_is (qx_namF 1) qx_non (nomark _))
    (qss_one (qs_ret (qx_cmp op_isA dr_is (qx_namF 0) qx_non (nomark _))))
    qss_nil)
    (qss_cons (qs_if (qt_tru (qx_callB call_isA (drc_isi T.it) (by rfl) T.n_isinstance (by rfl) (qa_cons (qx_namF 1) (qa_cons (qx_ty (n := "str") (by rfl) T.n_str (by rfl)) qa_nil))))
    (qss_one (qs_ret (qx_and (qx_callB call_isA (drc_isi T.it) (by rfl) T.n_isinstance (by rfl) (qa_cons (qx_namF 0) (qa_cons (qx_ty (n := "str") (by rfl) T.n_str (by rfl)) qa_nil))) (qx_one (qx_cmp (op_eqA hr.units) dr_eq (qx_namF 0) (qx_namF 1) (nomark _))))))
    qss_nil)
    (qss_cons (qs_if (qt_tru (qx_callB call_isA (drc_isi T.it) (by rfl) T.n_isinstance (by rfl) (qa_cons (qx_namF 1) (qa_cons (qx_ty (n := "bool") (by rfl) T.n_bool (by rfl)) qa_nil))))
    (qss_one (qs_ret (qx_and (qx_callB call_isA (drc_isi T.it) (by rfl) T.n_isinstance (by rfl) (qa_cons (qx_namF 0) (qa_cons (qx_ty (n := "bool") (by rfl) T.n_bool (by rfl)) qa_nil))) (qx_one (qx_cmp (op_eqA hr.units) dr_eq (qx_namF 0) (qx_namF 1) (nomark _))))))
    qss_nil)
    (qss_cons (qs_if (qt_tru (qx_callB call_isA (drc_isi T.it) (by rfl) T.n_isinstance (by rfl) (qa_cons (qx_namF 1) (qa_cons (qx_ty (n := "int") (by rfl) T.n_int (by rfl)) qa_nil))))
    (qss_one (qs_ret (qx_and (qx_callB call_isA (drc_isi T.it) (by rfl) T.n_isinstance (by rfl) (qa_cons (qx_namF 0) (qa_cons (qx_ty (n := "int") (by rfl) T.n_int (by rfl)) qa_nil))) (qx_and (qx_not (qx_callB call_isA (drc_isi T.it) (by rfl) T.n_isinstance (by rfl) (qa_cons (qx_namF 0) (qa_cons (qx_ty (n := "bool") (by rfl) T.n_bool (by rfl)) qa_nil)))) (qx_one (qx_cmp (op_eqA hr.units) dr_eq (qx_namF 0) (qx_namF 1) (nomark _)))))))
    qss_nil)
    (qss_cons (qs_if (qt_w (qw_or (qt_not (qt_tru (qx_callB call_isA (drc_isi T.it) (by rfl) T.n_isinstance (by rfl) (qa_cons (qx_namF 0) (qa_cons (qx_ty (n := "tuple") (by rfl) T.n_tuple (by rfl)) qa_nil))))) (qw_1o (qt_cmp (op_neA hr.units) dr_ne (qx_callB call_lenA dr_len (by rfl) T.n_len (by rfl) (qa_cons (qx_namF 0) qa_nil)) (qx_callB call_lenA dr_len (by rfl) T.n_len (by rfl) (qa_cons (qx_namF 1) qa_nil)) (nomark _)))))
    (qss_one (qs_ret qx_bl))
    qss_nil)
    (qss_cons (qs_for (passes_of rfl) (qi_range1 (by rfl) T.n_range (qa_cons (qx_callB call_lenA dr_len (by rfl) T.n_len (by rfl) (qa_cons (qx_namF 1) qa_nil)) qa_nil)) (qg_name 2 (sc_law_same).nd rfl (by first | exact Or.inl rfl | exact Or.inr rfl))
    (qss_one (qs_if (qt_not (qt_tru (qx_fnB ih hr (by rfl) T.g_law_same T.F_law_same.kp T.b_law_same (takes_of rfl rfl rfl rfl) (qa_cons (qx_sub1 (hu_of hr) (qx_namF 0) (qx_namF 2)) (qa_cons (qx_sub1 (hu_of hr) (qx_namF 1) (qx_namF 2)) qa_nil)) (hfs := (len_cons (len_cons (fun _ _ _ h => len_nil h)))))))
    (qss_one (qs_ret qx_bl))
    qss_nil)))
    (qss_one (qs_ret qx_bl))))))))
theorem sc_law : FnScope ["script", "at", "numbers", "alphabet", "pairs", "rank", "due", "handed", "odds"] ["script"] (defScope s_law) := ⟨rfl, rfl, rfl, by decide +kernel, rfl, by decide +kernel, by decide +kernel⟩
theorem ok_law (T : Txt K mg cl fa fd) : FnOk P w K mg base (L2.CX P w) 10 (fa 21) (fd 21) ["script"] (spD K cl 1 [] r_law) :=
  fnD T.F_law sc_law rfl (by decide) fun cdv A outer s H E vf hr =>
   (qss_cons (qs_for (passes_of rfl) (qi_range1 (by rfl) T.n_range (qa_cons (qx_callB (call_min2 rfl) dr_min2 (by rfl) T.n_min (by rfl) (qa_cons (qx_callB call_lenA dr_len (by rfl) T.n_len (by rfl) (qa_cons (qx_namF 0) qa_nil)) (qa_cons qx_int qa_nil))) qa_nil)) (qg_name 1 (sc_law).nd rfl (by first | exact Or.inl rfl | exact Or.inr rfl))
    (qss_cons (qs_set 2 (sc_law).nd rfl (by first | exact Or.inl rfl | exact Or.inr rfl) (qx_frz (qx_fnB (ok_law_numbers T) (hr.mono (by decide)) (by rfl) T.g_law_numbers T.F_law_numbers.kp T.b_law_numbers (takes_of rfl rfl rfl rfl) (qa_cons (qx_sub1 (hu_of hr) (qx_namF 0) (qx_namF 1)) (qa_cons (qx_namF 1) (qa_cons qx_int qa_nil))) (hfs := (len_cons (len_cons (len_cons (fun _ _ _ h => len_nil h))))))))
    (qss_cons (qs_set 3 (sc_law).nd rfl (by first | exact Or.inl rfl | exact Or.inr rfl) (qx_frz (qx_fnB (ok_law_alphabet T) (hr.mono (by decide)) (by rfl) T.g_law_alphabet T.F_law_alphabet.kp T.b_law_alphabet (takes_of rfl rfl rfl rfl) (qa_cons (qx_namF 2) (qa_cons qx_int (qa_cons (qx_add qx_int (qx_mod (qx_callTy call_int1 dr_int (by rfl) T.n_int (by rfl) (qa_cons (qx_sub1 (hu_of hr) (qx_namF 2) qx_int) qa_nil)) qx_int)) qa_nil))) (hfs := (len_cons (len_cons (len_cons (fun _ _ _ h => len_nil h))))))))
    (qss_cons (qs_set 4 (sc_law).nd rfl (by first | exact Or.inl rfl | exact Or.inr rfl) (qx_frz (qx_fnB (ok_law_pairs T) (hr.mono (by decide)) (by rfl) T.g_law_pairs T.F_law_pairs.kp T.b_law_pairs (takes_of rfl rfl rfl rfl) (qa_cons (qx_namF 2) (qa_cons (qx_namF 3) qa_nil)) (hfs := (len_cons (len_cons (fun _ _ _ h => len_nil h)))))))
    (qss_cons (qs_set 5 (sc_law).nd rfl (by first | exact Or.inl rfl | exact Or.inr rfl) (qx_frz (qx_fnB (ok_law_due T) (hr.mono (by decide)) (by rfl) T.g_law_due T.F_law_due.kp T.b_law_due (takes_of rfl rfl rfl rfl) (qa_cons (qx_namF 3) (qa_cons (qx_namF 4) qa_nil)) (hfs := (len_cons (len_cons (fun _ _ _ h => len_nil h)))))))
    (qss_cons (qs_set 6 (sc_law).nd rfl (by first | exact Or.inl rfl | exact Or.inr rfl) (qx_tup (qa_cons qx_str (qa_cons (qx_callTy (call_tupleA rfl) dr_tuple (by rfl) T.n_tuple (by rfl) (qa_cons (qx_namF 4) qa_nil)) qa_nil))))
    (qss_cons (qs_if (qt_cmp op_isNotA dr_isNot (qx_namF 5) qx_non (nomark _))
    (qss_one (qs_set 6 (sc_law).nd rfl (by first | exact Or.inl rfl | exact Or.inr rfl) (qx_tup (qa_cons qx_str (qa_cons (qx_namF 5) qa_nil)))))
    qss_nil)
    (qss_cons (qs_if (qt_cmp (op_eqA hr.units) dr_eq (qx_mod (qx_callTy call_int1 dr_int (by rfl) T.n_int (by rfl) (qa_cons (qx_sub1 (hu_of hr) (qx_namF 2) qx_int) qa_nil)) qx_int) qx_int (nomark _))
    (qss_cons (qs_set 8 (sc_law).nd rfl (by first | exact Or.inl rfl | exact Or.inr rfl) (qx_frz (qx_lst (qa_cons qx_str (qa_cons (qx_frz (qx_add (qx_namF 3) (qx_slice (qx_namF 3) qo_none (qo_some qx_int)))) (qa_cons (qx_frz (qx_add (qx_namF 3) qx_str)) (qa_cons (qx_frz (qx_add (qx_namF 3) qx_str)) (qa_cons qx_str qa_nil))))))))
    (qss_cons (qs_set 8 (sc_law).nd rfl (by first | exact Or.inl rfl | exact Or.inr rfl) (qx_frz (qx_add (qx_namF 8) (qx_lst (qa_cons qx_str (qa_cons (qx_frz (qx_add qx_str (qx_namF 3))) (qa_cons (qx_frz (qx_add (qx_sub1 (hu_of hr) (qx_namF 3) (qx_neg qx_int)) (qx_namF 3))) qa_nil)))))))
    (qss_cons (qs_set 3 (sc_law).nd rfl (by first | exact Or.inl rfl | exact Or.inr rfl) (qx_sub1 (hu_of hr) (qx_namF 8) (qx_mod (qx_callTy call_int1 dr_int (by rfl) T.n_int (by rfl) (qa_cons (qx_div (qx_sub1 (hu_of hr) (qx_namF 2) qx_int) qx_int) qa_nil)) qx_int)))
    (qss_one (qs_set 6 (sc_law).nd rfl (by first | exact Or.inl rfl | exact Or.inr rfl) (qx_tup (qa_cons qx_str (qa_cons (qx_namF 3) qa_nil))))))))
    qss_nil)
    (qss_cons (qs_set 7 (sc_law).nd rfl (by first | exact Or.inl rfl | exact Or.inr rfl) (qx_namF 4))
    (qss_cons (qs_if (qt_cmp (op_eqA hr.units) dr_eq (qx_mod (qx_callTy call_int1 dr_int (by rfl) T.n_int (by rfl) (qa_cons (qx_sub1 (hu_of hr) (qx_namF 2) qx_int) qa_nil)) qx_int) qx_int (nomark _))
    (qss_one (qs_set 7 (sc_law).nd rfl (by first | exact Or.inl rfl | exact Or.inr rfl) (qx_callTy (call_tupleA rfl) dr_tuple (by rfl) T.n_tuple (by rfl) (qa_cons (qx_namF 4) qa_nil))))
    qss_nil)
    (qss_one (qs_if (qt_not (qt_tru (qx_fnB (ok_law_same T fuel) (hr.mono (by decide)) (by rfl) T.g_law_same T.F_law_same.kp T.b_law_same (takes_of rfl rfl rfl rfl) (qa_cons (qx_fnB (ok_law_ask T) (hr.mono (by decide)) (by rfl) T.g_law_ask T.F_law_ask.kp T.b_law_ask (takes_of rfl rfl rfl rfl) (qa_cons (qx_namF 3) (qa_cons (qx_namF 7) qa_nil)) (hfs := (len_cons (len_cons (fun _ _ _ h => len_nil h))))) (qa_cons (qx_namF 6) qa_nil)) (hfs := (len_cons (len_cons (fun _ _ _ h => len_nil h)))))))
    (qss_one (qs_ret qx_bl))
    qss_nil))))))))))))
    (qss_one (qs_ret qx_bl)))
end
end DL
namespace DL
open PySem PySem.Spec L2
open PyProof.Rows
theorem exm_of {K : PySem.W.Frag} {S : Addr} {cls : Value} {b : Bool} (h1 : PySem.W.subIn K (.ref S) (.type "BaseException") = some true) (h2 : PySem.W.isClsIn K S = true) (h3 : PySem.W.typeIn K (.ref S) = some (.type "type")) (h4 : PySem.W.subIn K cls (.ref S) = some b) :
    PySem.W.exmOne K cls (.ref S) = some b := by
  have e1 : (PySem.W.subIn K (.ref S) (.type "BaseException") == some true) = true := by rw [h1] <;> rfl
  have e2 : ((PySem.W.clsIn K S).isSome && PySem.W.typeIn K (.ref S) == some (.type "type")) = true := by
    have h2' : (PySem.W.clsIn K S).isSome = true := h2
    rw [h2', h3] <;> rfl
  show (if (PySem.W.subIn K (.ref S) (.type "BaseException") == some true) = true then (if ((PySem.W.clsIn K S).isSome && PySem.W.typeIn K (.ref S) == some (.type "type")) = true then PySem.W.subIn K cls (.ref S) else none) else none) = some b
  rw [if_pos e1, if_pos e2]
  exact h4
theorem all_mk {P : Program} {w : World} {K : PySem.W.Frag} {h : Heap} {mg : Str → Option Value} {fa0 : Addr} (X : K.In h) (G : h.Ns mainGlobals mg) (hfa : mg "law" = some (.ref fa0))
    {a0 a1 a2 a3 a4 a5 a6 a7 a8 a9 a10 a11 a12 a13 a14 a15 a16 a17 a18 a19 a20 a21 C0 C1 C2 C3 C4 C5 C6 C7 C8 C9 C10 : Addr}
    {nmC1 qC1 : Str} {NC1 : Addr} {bsC1 bmC1 : List Value} {snC1 : List Str} {subC1 : List Value} {abC1 : Bool} {colC1 : Option Bool} {ddC1 : Option Addr} {m0C1 m1C1 m2C1 m3C1 m5C1 : Option Value}
    {nmC2 qC2 : Str} {NC2 : Addr} {bsC2 bmC2 : List Value} {snC2 : List Str} {subC2 : List Value} {abC2 : Bool} {colC2 : Option Bool} {ddC2 : Option Addr} {m0C2 m1C2 m2C2 m3C2 m5C2 : Option Value}
    {oc0 kV0 dc0 pm0 cd0 ct0 : Value} {od0 an0 : Option Addr} {sl0 : Array (Option Value)}
    {oc1 kV1 dc1 pm1 cd1 ct1 : Value} {od1 an1 : Option Addr} {sl1 : Array (Option Value)}
    {oc2 kV2 dc2 pm2 cd2 ct2 : Value} {od2 an2 : Option Addr} {sl2 : Array (Option Value)}
    {oc3 kV3 dc3 pm3 cd3 ct3 : Value} {od3 an3 : Option Addr} {sl3 : Array (Option Value)}
    {oc4 kV4 dc4 pm4 cd4 ct4 : Value} {od4 an4 : Option Addr} {sl4 : Array (Option Value)}
    {oc5 kV5 dc5 pm5 cd5 ct5 : Value} {od5 an5 : Option Addr} {sl5 : Array (Option Value)}
    {oc6 kV6 dc6 pm6 cd6 ct6 : Value} {od6 an6 : Option Addr} {sl6 : Array (Option Value)}
    {oc7 kV7 dc7 pm7 cd7 ct7 : Value} {od7 an7 : Option Addr} {sl7 : Array (Option Value)}
    {oc8 kV8 dc8 pm8 cd8 ct8 : Value} {od8 an8 : Option Addr} {sl8 : Array (Option Value)}
    {oc9 kV9 dc9 pm9 cd9 ct9 : Value} {od9 an9 : Option Addr} {sl9 : Array (Option Value)}
    {oc10 kV10 dc10 pm10 cd10 ct10 : Value} {od10 an10 : Option Addr} {sl10 : Array (Option Value)}
    {oc11 kV11 dc11 pm11 cd11 ct11 : Value} {od11 an11 : Option Addr} {sl11 : Array (Option Value)}
    {oc12 kV12 dc12 pm12 cd12 ct12 : Value} {od12 an12 : Option Addr} {sl12 : Array (Option Value)}
    {oc13 kV13 dc13 pm13 cd13 ct13 : Value} {od13 an13 : Option Addr} {sl13 : Array (Option Value)}
    {oc14 kV14 dc14 pm14 cd14 ct14 : Value} {od14 an14 : Option Addr} {sl14 : Array (Option Value)}
    {oc15 kV15 dc15 pm15 cd15 ct15 : Value} {od15 an15 : Option Addr} {sl15 : Array (Option Value)}
    {oc16 kV16 dc16 pm16 cd16 ct16 : Value} {od16 an16 : Option Addr} {sl16 : Array (Option Value)}
    {oc17 kV17 dc17 pm17 cd17 ct17 : Value} {od17 an17 : Option Addr} {sl17 : Array (Option Value)}
    {oc18 kV18 dc18 pm18 cd18 ct18 : Value} {od18 an18 : Option Addr} {sl18 : Array (Option Value)}
    {oc19 kV19 dc19 pm19 cd19 ct19 : Value} {od19 an19 : Option Addr} {sl19 : Array (Option Value)}
    {oc20 kV20 dc20 pm20 cd20 ct20 : Value} {od20 an20 : Option Addr} {sl20 : Array (Option Value)}
    {oc21 kV21 dc21 pm21 cd21 ct21 : Value} {od21 an21 : Option Addr} {sl21 : Array (Option Value)}
    {tkLONGEST_PIECE : Tok}
    {tkMOST_LETTERS : Tok}
    (gC_Joins : PySem.W.nsIn K mainGlobals "Joins" = some (some (.ref C0)))
    (gC_InvalidAlphabet : PySem.W.nsIn K mainGlobals "InvalidAlphabet" = some (some (.ref C1)))
    (gC_NotProper : PySem.W.nsIn K mainGlobals "NotProper" = some (some (.ref C2)))
    (gC_JoinError : PySem.W.nsIn K mainGlobals "JoinError" = some (some (.ref C3)))
    (gC_InvalidModel : PySem.W.nsIn K mainGlobals "InvalidModel" = some (some (.ref C4)))
    (gC_InvalidNumber : PySem.W.nsIn K mainGlobals "InvalidNumber" = some (some (.ref C5)))
    (gC_InvalidText : PySem.W.nsIn K mainGlobals "InvalidText" = some (some (.ref C6)))
    (gC_NoChance : PySem.W.nsIn K mainGlobals "NoChance" = some (some (.ref C7)))
    (gC_NoPiece : PySem.W.nsIn K mainGlobals "NoPiece" = some (some (.ref C8)))
    (gC_NotCut : PySem.W.nsIn K mainGlobals "NotCut" = some (some (.ref C9)))
    (gC_UnknownSign : PySem.W.nsIn K mainGlobals "UnknownSign" = some (some (.ref C10)))
    (x_InvalidAlphabet : K.lookup C1 = some (excClassObj nmC1 qC1 C1 NC1 bsC1 bmC1 true snC1 subC1 abC1 colC1 ddC1 m0C1 m1C1 m2C1 m3C1 m5C1 "ValueError.__new__"))
    (xr_InvalidAlphabet : PySem.HandSPX.refsVE bmC1 = true)
    (xs_InvalidAlphabet : PySem.W.findIn K (.ref C1) "__setattr__" = some (some (.builtin "object.__setattr__")))
    (xe_InvalidAlphabet : PySem.W.subIn K (.ref C1) (.type "BaseException") = some true)
    (xt_InvalidAlphabet : PySem.W.typeIn K (.ref C1) = some (.type "type"))
    (xk_InvalidAlphabet : PySem.W.keepIn K (.ref C1) = true)
    (xg_InvalidAlphabet : PySem.W.findIn K (.ref C1) "__getattribute__" = some (some (.builtin "BaseException.__getattribute__")))
    (xh_InvalidAlphabet : PySem.W.findIn K (.ref C1) "__getattr__" = some none)
    (xd_InvalidAlphabet : PySem.W.hasDictIn K C1 = true)
    (xc_InvalidAlphabet : PySem.W.findIn K (.ref C1) "__class__" = some (some (.builtin "object.__class__")))
    (xm_InvalidAlphabet : PySem.W.mroIn K C1 (.type "object") = some true)
    (xi_InvalidAlphabet : PySem.W.isClsIn K C1 = true)
    (xn_InvalidAlphabet_alphabet : PySem.W.findIn K (.ref C1) (Str.ofString "alphabet") = some none)
    (xn_InvalidAlphabet_rank : PySem.W.findIn K (.ref C1) (Str.ofString "rank") = some none)
    (ex_JoinError_InvalidAlphabet : PySem.W.subIn K (.ref C1) (.ref C3) = some true)
    (x_NotProper : K.lookup C2 = some (excClassObj nmC2 qC2 C2 NC2 bsC2 bmC2 true snC2 subC2 abC2 colC2 ddC2 m0C2 m1C2 m2C2 m3C2 m5C2 "ValueError.__new__"))
    (xr_NotProper : PySem.HandSPX.refsVE bmC2 = true)
    (xs_NotProper : PySem.W.findIn K (.ref C2) "__setattr__" = some (some (.builtin "object.__setattr__")))
    (xe_NotProper : PySem.W.subIn K (.ref C2) (.type "BaseException") = some true)
    (xt_NotProper : PySem.W.typeIn K (.ref C2) = some (.type "type"))
    (xk_NotProper : PySem.W.keepIn K (.ref C2) = true)
    (xg_NotProper : PySem.W.findIn K (.ref C2) "__getattribute__" = some (some (.builtin "BaseException.__getattribute__")))
    (xh_NotProper : PySem.W.findIn K (.ref C2) "__getattr__" = some none)
    (xd_NotProper : PySem.W.hasDictIn K C2 = true)
    (xc_NotProper : PySem.W.findIn K (.ref C2) "__class__" = some (some (.builtin "object.__class__")))
    (xm_NotProper : PySem.W.mroIn K C2 (.type "object") = some true)
    (xi_NotProper : PySem.W.isClsIn K C2 = true)
    (xn_NotProper_alphabet : PySem.W.findIn K (.ref C2) (Str.ofString "alphabet") = some none)
    (xn_NotProper_rank : PySem.W.findIn K (.ref C2) (Str.ofString "rank") = some none)
    (ex_JoinError_NotProper : PySem.W.subIn K (.ref C2) (.ref C3) = some true)
    (he_JoinError : PySem.W.subIn K (.ref C3) (.type "BaseException") = some true)
    (hi_JoinError : PySem.W.isClsIn K C3 = true)
    (ht_JoinError : PySem.W.typeIn K (.ref C3) = some (.type "type"))
    (hget : PySem.W.specialIn K (.builtin "object.__class__") "__get__" = some (some (.builtin "getset_descriptor.__get__")))
    (htk : PySem.W.takesIn K (.builtin "object.__class__") = some true)
    (pg_Joins : PySem.W.plainGet K C0 Str.empty = true)
    (hd_Joins : PySem.W.hasDictIn K C0 = true)
    (po_Joins : PySem.W.plainOver K C0 = true)
    (sa_Joins : PySem.W.findIn K (.ref C0) "__setattr__" = some (some (.builtin "object.__setattr__")))
    (mk_Joins : PySem.W.makesIn K C0 = true)
    (kC_Joins : PySem.W.keepIn K (.ref C0) = true)
    (no_Joins_alphabet : PySem.W.findIn K (.ref C0) (Str.ofString "alphabet") = some none)
    (no_Joins_pairs : PySem.W.findIn K (.ref C0) (Str.ofString "pairs") = some none)
    (no_Joins_texts : PySem.W.findIn K (.ref C0) (Str.ofString "texts") = some none)
    (no_Joins_ranks : PySem.W.findIn K (.ref C0) (Str.ofString "ranks") = some none)
    (no_Joins_numbers : PySem.W.findIn K (.ref C0) (Str.ofString "numbers") = some none)
    (no_Joins_longest : PySem.W.findIn K (.ref C0) (Str.ofString "longest") = some none)
    (g0 : PySem.W.nsIn K mainGlobals "_law_alphabet" = some (some (.ref a0)))
    (l0 : K.lookup a0 = some ⟨oc0, od0, .func (PySem.W.fnOf "_law_alphabet" "_law_alphabet" (defArgs s_law_alphabet) (defBody s_law_alphabet) (defScope s_law_alphabet) .none kV0 dc0 pm0 an0 cd0 ct0), sl0⟩)
    (c0 : PySem.W.codeIn K cd0 "_law_alphabet" = true)
    (k0 : PySem.W.keepIn K (.ref a0) = true)
    (g1 : PySem.W.nsIn K mainGlobals "lowest_pair" = some (some (.ref a1)))
    (l1 : K.lookup a1 = some ⟨oc1, od1, .func (PySem.W.fnOf "lowest_pair" "lowest_pair" (defArgs s_lowest_pair) (defBody s_lowest_pair) (defScope s_lowest_pair) .none kV1 dc1 pm1 an1 cd1 ct1), sl1⟩)
    (c1 : PySem.W.codeIn K cd1 "lowest_pair" = true)
    (k1 : PySem.W.keepIn K (.ref a1) = true)
    (g2 : PySem.W.nsIn K mainGlobals "put_together" = some (some (.ref a2)))
    (l2 : K.lookup a2 = some ⟨oc2, od2, .func (PySem.W.fnOf "put_together" "put_together" (defArgs s_put_together) (defBody s_put_together) (defScope s_put_together) .none kV2 dc2 pm2 an2 cd2 ct2), sl2⟩)
    (c2 : PySem.W.codeIn K cd2 "put_together" = true)
    (k2 : PySem.W.keepIn K (.ref a2) = true)
    (g3 : PySem.W.nsIn K mainGlobals "cut_row" = some (some (.ref a3)))
    (l3 : K.lookup a3 = some ⟨oc3, od3, .func (PySem.W.fnOf "cut_row" "cut_row" (defArgs s_cut_row) (defBody s_cut_row) (defScope s_cut_row) .none kV3 dc3 pm3 an3 cd3 ct3), sl3⟩)
    (c3 : PySem.W.codeIn K cd3 "cut_row" = true)
    (k3 : PySem.W.keepIn K (.ref a3) = true)
    (g4 : PySem.W.nsIn K mainGlobals "is_between" = some (some (.ref a4)))
    (l4 : K.lookup a4 = some ⟨oc4, od4, .func (PySem.W.fnOf "is_between" "is_between" (defArgs s_is_between) (defBody s_is_between) (defScope s_is_between) .none kV4 dc4 pm4 an4 cd4 ct4), sl4⟩)
    (c4 : PySem.W.codeIn K cd4 "is_between" = true)
    (k4 : PySem.W.keepIn K (.ref a4) = true)
    (q5 : PySem.W.findIn K (.ref C0) "is_proper" = some (some (.ref a5)))
    (n5 : PySem.W.isFn K (.ref a5) = true)
    (l5 : K.lookup a5 = some ⟨oc5, od5, .func (PySem.W.fnOf "is_proper" "Joins.is_proper" (defArgs s_Joins_is_proper) (defBody s_Joins_is_proper) (defScope s_Joins_is_proper) .none kV5 dc5 pm5 an5 cd5 ct5), sl5⟩)
    (c5 : PySem.W.codeIn K cd5 "Joins.is_proper" = true)
    (k5 : PySem.W.keepIn K (.ref a5) = true)
    (q6 : PySem.W.findIn K (.ref C2) "__init__" = some (some (.ref a6)))
    (t6 : PySem.W.typeIn K (.ref a6) = some (.type "function"))
    (l6 : K.lookup a6 = some ⟨oc6, od6, .func (PySem.W.fnOf "__init__" "NotProper.__init__" (defArgs s_NotProper_init) (defBody s_NotProper_init) (defScope s_NotProper_init) .none kV6 dc6 pm6 an6 cd6 ct6), sl6⟩)
    (c6 : PySem.W.codeIn K cd6 "NotProper.__init__" = true)
    (k6 : PySem.W.keepIn K (.ref a6) = true)
    (q7 : PySem.W.findIn K (.ref C0) "take" = some (some (.ref a7)))
    (n7 : PySem.W.isFn K (.ref a7) = true)
    (l7 : K.lookup a7 = some ⟨oc7, od7, .func (PySem.W.fnOf "take" "Joins.take" (defArgs s_Joins_take) (defBody s_Joins_take) (defScope s_Joins_take) .none kV7 dc7 pm7 an7 cd7 ct7), sl7⟩)
    (c7 : PySem.W.codeIn K cd7 "Joins.take" = true)
    (k7 : PySem.W.keepIn K (.ref a7) = true)
    (q8 : PySem.W.findIn K (.ref C1) "__init__" = some (some (.ref a8)))
    (t8 : PySem.W.typeIn K (.ref a8) = some (.type "function"))
    (l8 : K.lookup a8 = some ⟨oc8, od8, .func (PySem.W.fnOf "__init__" "InvalidAlphabet.__init__" (defArgs s_InvalidAlphabet_init) (defBody s_InvalidAlphabet_init) (defScope s_InvalidAlphabet_init) .none kV8 dc8 pm8 an8 cd8 ct8), sl8⟩)
    (c8 : PySem.W.codeIn K cd8 "InvalidAlphabet.__init__" = true)
    (k8 : PySem.W.keepIn K (.ref a8) = true)
    (g9 : PySem.W.nsIn K mainGlobals "is_alphabet" = some (some (.ref a9)))
    (l9 : K.lookup a9 = some ⟨oc9, od9, .func (PySem.W.fnOf "is_alphabet" "is_alphabet" (defArgs s_is_alphabet) (defBody s_is_alphabet) (defScope s_is_alphabet) .none kV9 dc9 pm9 an9 cd9 ct9), sl9⟩)
    (c9 : PySem.W.codeIn K cd9 "is_alphabet" = true)
    (k9 : PySem.W.keepIn K (.ref a9) = true)
    (g10 : PySem.W.nsIn K mainGlobals "checked_alphabet" = some (some (.ref a10)))
    (l10 : K.lookup a10 = some ⟨oc10, od10, .func (PySem.W.fnOf "checked_alphabet" "checked_alphabet" (defArgs s_checked_alphabet) (defBody s_checked_alphabet) (defScope s_checked_alphabet) .none kV10 dc10 pm10 an10 cd10 ct10), sl10⟩)
    (c10 : PySem.W.codeIn K cd10 "checked_alphabet" = true)
    (k10 : PySem.W.keepIn K (.ref a10) = true)
    (q11 : PySem.W.findIn K (.ref C0) "__init__" = some (some (.ref a11)))
    (n11 : PySem.W.isFn K (.ref a11) = true)
    (l11 : K.lookup a11 = some ⟨oc11, od11, .func (PySem.W.fnOf "__init__" "Joins.__init__" (defArgs s_Joins_init) (defBody s_Joins_init) (defScope s_Joins_init) .none kV11 dc11 pm11 an11 cd11 ct11), sl11⟩)
    (c11 : PySem.W.codeIn K cd11 "Joins.__init__" = true)
    (k11 : PySem.W.keepIn K (.ref a11) = true)
    (g12 : PySem.W.nsIn K mainGlobals "_law_ask" = some (some (.ref a12)))
    (l12 : K.lookup a12 = some ⟨oc12, od12, .func (PySem.W.fnOf "_law_ask" "_law_ask" (defArgs s_law_ask) (defBody s_law_ask) (defScope s_law_ask) .none kV12 dc12 pm12 an12 cd12 ct12), sl12⟩)
    (c12 : PySem.W.codeIn K cd12 "_law_ask" = true)
    (k12 : PySem.W.keepIn K (.ref a12) = true)
    (g13 : PySem.W.nsIn K mainGlobals "_law_letters" = some (some (.ref a13)))
    (l13 : K.lookup a13 = some ⟨oc13, od13, .func (PySem.W.fnOf "_law_letters" "_law_letters" (defArgs s_law_letters) (defBody s_law_letters) (defScope s_law_letters) .none kV13 dc13 pm13 an13 cd13 ct13), sl13⟩)
    (c13 : PySem.W.codeIn K cd13 "_law_letters" = true)
    (k13 : PySem.W.keepIn K (.ref a13) = true)
    (g14 : PySem.W.nsIn K mainGlobals "_law_join_all" = some (some (.ref a14)))
    (l14 : K.lookup a14 = some ⟨oc14, od14, .func (PySem.W.fnOf "_law_join_all" "_law_join_all" (defArgs s_law_join_all) (defBody s_law_join_all) (defScope s_law_join_all) .none kV14 dc14 pm14 an14 cd14 ct14), sl14⟩)
    (c14 : PySem.W.codeIn K cd14 "_law_join_all" = true)
    (k14 : PySem.W.keepIn K (.ref a14) = true)
    (g15 : PySem.W.nsIn K mainGlobals "_law_staged" = some (some (.ref a15)))
    (l15 : K.lookup a15 = some ⟨oc15, od15, .func (PySem.W.fnOf "_law_staged" "_law_staged" (defArgs s_law_staged) (defBody s_law_staged) (defScope s_law_staged) .none kV15 dc15 pm15 an15 cd15 ct15), sl15⟩)
    (c15 : PySem.W.codeIn K cd15 "_law_staged" = true)
    (k15 : PySem.W.keepIn K (.ref a15) = true)
    (g16 : PySem.W.nsIn K mainGlobals "_law_is_proper" = some (some (.ref a16)))
    (l16 : K.lookup a16 = some ⟨oc16, od16, .func (PySem.W.fnOf "_law_is_proper" "_law_is_proper" (defArgs s_law_is_proper) (defBody s_law_is_proper) (defScope s_law_is_proper) .none kV16 dc16 pm16 an16 cd16 ct16), sl16⟩)
    (c16 : PySem.W.codeIn K cd16 "_law_is_proper" = true)
    (k16 : PySem.W.keepIn K (.ref a16) = true)
    (g17 : PySem.W.nsIn K mainGlobals "_law_due" = some (some (.ref a17)))
    (l17 : K.lookup a17 = some ⟨oc17, od17, .func (PySem.W.fnOf "_law_due" "_law_due" (defArgs s_law_due) (defBody s_law_due) (defScope s_law_due) .none kV17 dc17 pm17 an17 cd17 ct17), sl17⟩)
    (c17 : PySem.W.codeIn K cd17 "_law_due" = true)
    (k17 : PySem.W.keepIn K (.ref a17) = true)
    (g18 : PySem.W.nsIn K mainGlobals "_law_numbers" = some (some (.ref a18)))
    (l18 : K.lookup a18 = some ⟨oc18, od18, .func (PySem.W.fnOf "_law_numbers" "_law_numbers" (defArgs s_law_numbers) (defBody s_law_numbers) (defScope s_law_numbers) .none kV18 dc18 pm18 an18 cd18 ct18), sl18⟩)
    (c18 : PySem.W.codeIn K cd18 "_law_numbers" = true)
    (k18 : PySem.W.keepIn K (.ref a18) = true)
    (g19 : PySem.W.nsIn K mainGlobals "_law_pairs" = some (some (.ref a19)))
    (l19 : K.lookup a19 = some ⟨oc19, od19, .func (PySem.W.fnOf "_law_pairs" "_law_pairs" (defArgs s_law_pairs) (defBody s_law_pairs) (defScope s_law_pairs) .none kV19 dc19 pm19 an19 cd19 ct19), sl19⟩)
    (c19 : PySem.W.codeIn K cd19 "_law_pairs" = true)
    (k19 : PySem.W.keepIn K (.ref a19) = true)
    (g20 : PySem.W.nsIn K mainGlobals "_law_same" = some (some (.ref a20)))
    (l20 : K.lookup a20 = some ⟨oc20, od20, .func (PySem.W.fnOf "_law_same" "_law_same" (defArgs s_law_same) (defBody s_law_same) (defScope s_law_same) .none kV20 dc20 pm20 an20 cd20 ct20), sl20⟩)
    (c20 : PySem.W.codeIn K cd20 "_law_same" = true)
    (k20 : PySem.W.keepIn K (.ref a20) = true)
    (g21 : PySem.W.nsIn K mainGlobals "law" = some (some (.ref a21)))
    (l21 : K.lookup a21 = some ⟨oc21, od21, .func (PySem.W.fnOf "law" "law" (defArgs s_law) (defBody s_law) (defScope s_law) .none kV21 dc21 pm21 an21 cd21 ct21), sl21⟩)
    (c21 : PySem.W.codeIn K cd21 "law" = true)
    (k21 : PySem.W.keepIn K (.ref a21) = true)
    (v_LONGEST_PIECE : PySem.W.nsIn K mainGlobals "LONGEST_PIECE" = some (some (.int 40 tkLONGEST_PIECE)))
    (v_MOST_LETTERS : PySem.W.nsIn K mainGlobals "MOST_LETTERS" = some (some (.int 30 tkMOST_LETTERS)))
    (u_ValueError : PySem.W.nsIn K mainGlobals "ValueError" = some none)
    (u_abs : PySem.W.nsIn K mainGlobals "abs" = some none)
    (u_bool : PySem.W.nsIn K mainGlobals "bool" = some none)
    (u_enumerate : PySem.W.nsIn K mainGlobals "enumerate" = some none)
    (u_int : PySem.W.nsIn K mainGlobals "int" = some none)
    (u_isinstance : PySem.W.nsIn K mainGlobals "isinstance" = some none)
    (u_len : PySem.W.nsIn K mainGlobals "len" = some none)
    (u_list : PySem.W.nsIn K mainGlobals "list" = some none)
    (u_max : PySem.W.nsIn K mainGlobals "max" = some none)
    (u_min : PySem.W.nsIn K mainGlobals "min" = some none)
    (u_range : PySem.W.nsIn K mainGlobals "range" = some none)
    (u_sorted : PySem.W.nsIn K mainGlobals "sorted" = some none)
    (u_str : PySem.W.nsIn K mainGlobals "str" = some none)
    (u_tuple : PySem.W.nsIn K mainGlobals "tuple" = some none)
    (kit0 : PySem.W.kitOne K (.ref C1) (.ref C1) = some true)
    (kit1 : PySem.W.kitOne K (.ref C2) (.ref C1) = some false)
    (kit2 : PySem.W.kitOne K (.ref C1) (.ref C4) = some false)
    (kit3 : PySem.W.kitOne K (.ref C2) (.ref C4) = some false)
    (kit4 : PySem.W.kitOne K (.ref C1) (.ref C5) = some false)
    (kit5 : PySem.W.kitOne K (.ref C2) (.ref C5) = some false)
    (kit6 : PySem.W.kitOne K (.ref C1) (.ref C6) = some false)
    (kit7 : PySem.W.kitOne K (.ref C2) (.ref C6) = some false)
    (kit8 : PySem.W.kitOne K (.ref C1) (.ref C7) = some false)
    (kit9 : PySem.W.kitOne K (.ref C2) (.ref C7) = some false)
    (kit10 : PySem.W.kitOne K (.ref C1) (.ref C8) = some false)
    (kit11 : PySem.W.kitOne K (.ref C2) (.ref C8) = some false)
    (kit12 : PySem.W.kitOne K (.ref C1) (.ref C9) = some false)
    (kit13 : PySem.W.kitOne K (.ref C2) (.ref C9) = some false)
    (kit14 : PySem.W.kitOne K (.ref C1) (.ref C2) = some false)
    (kit15 : PySem.W.kitOne K (.ref C2) (.ref C2) = some true)
    (kit16 : PySem.W.kitOne K (.ref C1) (.ref C10) = some false)
    (kit17 : PySem.W.kitOne K (.ref C2) (.ref C10) = some false)
    (kit18 : PySem.W.kitOne K (.ref C1) (.type "ValueError") = some true)
    (kit19 : PySem.W.kitOne K (.ref C2) (.type "ValueError") = some true)
    (kit20 : PySem.W.kitOne K (.type "NoneType") (.type "bool") = some false)
    (kit21 : PySem.W.kitOne K (.type "bool") (.type "bool") = some true)
    (kit22 : PySem.W.kitOne K (.type "int") (.type "bool") = some false)
    (kit23 : PySem.W.kitOne K (.type "str") (.type "bool") = some false)
    (kit24 : PySem.W.kitOne K (.type "tuple") (.type "bool") = some false)
    (kit25 : PySem.W.kitOne K (.type "NoneType") (.type "int") = some false)
    (kit26 : PySem.W.kitOne K (.type "bool") (.type "int") = some true)
    (kit27 : PySem.W.kitOne K (.type "int") (.type "int") = some true)
    (kit28 : PySem.W.kitOne K (.type "str") (.type "int") = some false)
    (kit29 : PySem.W.kitOne K (.type "tuple") (.type "int") = some false)
    (kit30 : PySem.W.kitOne K (.type "NoneType") (.type "str") = some false)
    (kit31 : PySem.W.kitOne K (.type "bool") (.type "str") = some false)
    (kit32 : PySem.W.kitOne K (.type "int") (.type "str") = some false)
    (kit33 : PySem.W.kitOne K (.type "str") (.type "str") = some true)
    (kit34 : PySem.W.kitOne K (.type "tuple") (.type "str") = some false)
    (kit35 : PySem.W.kitOne K (.type "NoneType") (.type "tuple") = some false)
    (kit36 : PySem.W.kitOne K (.type "bool") (.type "tuple") = some false)
    (kit37 : PySem.W.kitOne K (.type "int") (.type "tuple") = some false)
    (kit38 : PySem.W.kitOne K (.type "str") (.type "tuple") = some false)
    (kit39 : PySem.W.kitOne K (.type "tuple") (.type "tuple") = some true)
    : ∃ fd : FuncData, (∀ (s : Shared) (u : Value), BindsTo s fd ⟨[u], []⟩ [("script", u)]) ∧ ∀ base : Heap, K.In base → base.Ns mainGlobals mg → FnOk P w K mg base (L2.CX P w) 10 fa0 fd ["script"] (spL K) := by
  have e0 := hfa.symm.trans (PySem.W.mg_of X G g21)
  rw [show fa0 = a21 from by cases e0; rfl]
  obtain ⟨cl, E_Joins, E_InvalidAlphabet, E_NotProper, E_JoinError, E_InvalidModel, E_InvalidNumber, E_InvalidText, E_NoChance, E_NoPiece, E_NotCut, E_UnknownSign⟩ : ∃ cl : String → Addr, cl "Joins" = C0 ∧ cl "InvalidAlphabet" = C1 ∧ cl "NotProper" = C2 ∧ cl "JoinError" = C3 ∧ cl "InvalidModel" = C4 ∧ cl "InvalidNumber" = C5 ∧ cl "InvalidText" = C6 ∧ cl "NoChance" = C7 ∧ cl "NoPiece" = C8 ∧ cl "NotCut" = C9 ∧ cl "UnknownSign" = C10 := ⟨fun s => if s = "Joins" then C0 else if s = "InvalidAlphabet" then C1 else if s = "NotProper" then C2 else if s = "JoinError" then C3 else if s = "InvalidModel" then C4 else if s = "InvalidNumber" then C5 else if s = "InvalidText" then C6 else if s = "NoChance" then C7 else if s = "NoPiece" then C8 else if s = "NotCut" then C9 else if s = "UnknownSign" then C10 else 0, by simp, by simp, by simp, by simp, by simp, by simp, by simp, by simp, by simp, by simp, by simp⟩
  let fa : Nat → Addr := fun n => [a0, a1, a2, a3, a4, a5, a6, a7, a8, a9, a10, a11, a12, a13, a14, a15, a16, a17, a18, a19, a20, a21].getD n 0
  let fd : Nat → FuncData := fun n => [PySem.W.fnOf "_law_alphabet" "_law_alphabet" (defArgs s_law_alphabet) (defBody s_law_alphabet) (defScope s_law_alphabet) .none kV0 dc0 pm0 an0 cd0 ct0, PySem.W.fnOf "lowest_pair" "lowest_pair" (defArgs s_lowest_pair) (defBody s_lowest_pair) (defScope s_lowest_pair) .none kV1 dc1 pm1 an1 cd1 ct1, PySem.W.fnOf "put_together" "put_together" (defArgs s_put_together) (defBody s_put_together) (defScope s_put_together) .none kV2 dc2 pm2 an2 cd2 ct2, PySem.W.fnOf "cut_row" "cut_row" (defArgs s_cut_row) (defBody s_cut_row) (defScope s_cut_row) .none kV3 dc3 pm3 an3 cd3 ct3, PySem.W.fnOf "is_between" "is_between" (defArgs s_is_between) (defBody s_is_between) (defScope s_is_between) .none kV4 dc4 pm4 an4 cd4 ct4, PySem.W.fnOf "is_proper" "Joins.is_proper" (defArgs s_Joins_is_proper) (defBody s_Joins_is_proper) (defScope s_Joins_is_proper) .none kV5 dc5 pm5 an5 cd5 ct5, PySem.W.fnOf "__init__" "NotProper.__init__" (defArgs s_NotProper_init) (defBody s_NotProper_init) (defScope s_NotProper_init) .none kV6 dc6 pm6 an6 cd6 ct6, PySem.W.fnOf "take" "Joins.take" (defArgs s_Joins_take) (defBody s_Joins_take) (defScope s_Joins_take) .none kV7 dc7 pm7 an7 cd7 ct7, PySem.W.fnOf "__init__" "InvalidAlphabet.__init__" (defArgs s_InvalidAlphabet_init) (defBody s_InvalidAlphabet_init) (defScope s_InvalidAlphabet_init) .none kV8 dc8 pm8 an8 cd8 ct8, PySem.W.fnOf "is_alphabet" "is_alphabet" (defArgs s_is_alphabet) (defBody s_is_alphabet) (defScope s_is_alphabet) .none kV9 dc9 pm9 an9 cd9 ct9, PySem.W.fnOf "checked_alphabet" "checked_alphabet" (defArgs s_checked_alphabet) (defBody s_checked_alphabet) (defScope s_checked_alphabet) .none kV10 dc10 pm10 an10 cd10 ct10, PySem.W.fnOf "__init__" "Joins.__init__" (defArgs s_Joins_init) (defBody s_Joins_init) (defScope s_Joins_init) .none kV11 dc11 pm11 an11 cd11 ct11, PySem.W.fnOf "_law_ask" "_law_ask" (defArgs s_law_ask) (defBody s_law_ask) (defScope s_law_ask) .none kV12 dc12 pm12 an12 cd12 ct12, PySem.W.fnOf "_law_letters" "_law_letters" (defArgs s_law_letters) (defBody s_law_letters) (defScope s_law_letters) .none kV13 dc13 pm13 an13 cd13 ct13, PySem.W.fnOf "_law_join_all" "_law_join_all" (defArgs s_law_join_all) (defBody s_law_join_all) (defScope s_law_join_all) .none kV14 dc14 pm14 an14 cd14 ct14, PySem.W.fnOf "_law_staged" "_law_staged" (defArgs s_law_staged) (defBody s_law_staged) (defScope s_law_staged) .none kV15 dc15 pm15 an15 cd15 ct15, PySem.W.fnOf "_law_is_proper" "_law_is_proper" (defArgs s_law_is_proper) (defBody s_law_is_proper) (defScope s_law_is_proper) .none kV16 dc16 pm16 an16 cd16 ct16, PySem.W.fnOf "_law_due" "_law_due" (defArgs s_law_due) (defBody s_law_due) (defScope s_law_due) .none kV17 dc17 pm17 an17 cd17 ct17, PySem.W.fnOf "_law_numbers" "_law_numbers" (defArgs s_law_numbers) (defBody s_law_numbers) (defScope s_law_numbers) .none kV18 dc18 pm18 an18 cd18 ct18, PySem.W.fnOf "_law_pairs" "_law_pairs" (defArgs s_law_pairs) (defBody s_law_pairs) (defScope s_law_pairs) .none kV19 dc19 pm19 an19 cd19 ct19, PySem.W.fnOf "_law_same" "_law_same" (defArgs s_law_same) (defBody s_law_same) (defScope s_law_same) .none kV20 dc20 pm20 an20 cd20 ct20, PySem.W.fnOf "law" "law" (defArgs s_law) (defBody s_law) (defScope s_law) .none kV21 dc21 pm21 an21 cd21 ct21].getD n (PySem.W.fnOf "_law_alphabet" "_law_alphabet" (defArgs s_law_alphabet) (defBody s_law_alphabet) (defScope s_law_alphabet) .none kV0 dc0 pm0 an0 cd0 ct0)
  have T : Txt K mg cl fa fd := {
    F_law_alphabet := fun_mk l0 c0 k0
    b_law_alphabet := (fun_mk (st := s_law_alphabet) l0 c0 k0).binds (ps := ["numbers", "k", "many"]) fun _ _ _ _ _ _ us hl => match us, hl with | [_, _, _], _ => rfl
    g_law_alphabet := PySem.W.mg_of X G g0
    F_lowest_pair := fun_mk l1 c1 k1
    b_lowest_pair := (fun_mk (st := s_lowest_pair) l1 c1 k1).binds (ps := ["ranks", "row"]) fun _ _ _ _ _ _ us hl => match us, hl with | [_, _], _ => rfl
    g_lowest_pair := PySem.W.mg_of X G g1
    F_put_together := fun_mk l2 c2 k2
    b_put_together := (fun_mk (st := s_put_together) l2 c2 k2).binds (ps := ["row", "pair", "piece"]) fun _ _ _ _ _ _ us hl => match us, hl with | [_, _, _], _ => rfl
    g_put_together := PySem.W.mg_of X G g2
    F_cut_row := fun_mk l3 c3 k3
    b_cut_row := (fun_mk (st := s_cut_row) l3 c3 k3).binds (ps := ["ranks", "letters", "row"]) fun _ _ _ _ _ _ us hl => match us, hl with | [_, _, _], _ => rfl
    g_cut_row := PySem.W.mg_of X G g3
    F_is_between := fun_mk l4 c4 k4
    b_is_between := (fun_mk (st := s_is_between) l4 c4 k4).binds (ps := ["value", "least", "most"]) fun _ _ _ _ _ _ us hl => match us, hl with | [_, _, _], _ => rfl
    g_is_between := PySem.W.mg_of X G g4
    F_Joins_is_proper := fun_mk l5 c5 k5
    b_Joins_is_proper := (fun_mk (st := s_Joins_is_proper) l5 c5 k5).binds (ps := ["self", "pair"]) fun _ _ _ _ _ _ us hl => match us, hl with | [_, _], _ => rfl
    m_Joins_is_proper := by rw [E_Joins]; exact ⟨q5, n5, k5⟩
    F_NotProper_init := fun_mk l6 c6 k6
    b_NotProper_init := (fun_mk (st := s_NotProper_init) l6 c6 k6).binds (ps := ["self", "rank"]) fun _ _ _ _ _ _ us hl => match us, hl with | [_, _], _ => rfl
    i_NotProper_init := by rw [E_NotProper]; exact q6
    t_NotProper_init := t6
    F_Joins_take := fun_mk l7 c7 k7
    b_Joins_take := (fun_mk (st := s_Joins_take) l7 c7 k7).binds (ps := ["self", "pair"]) fun _ _ _ _ _ _ us hl => match us, hl with | [_, _], _ => rfl
    m_Joins_take := by rw [E_Joins]; exact ⟨q7, n7, k7⟩
    F_InvalidAlphabet_init := fun_mk l8 c8 k8
    b_InvalidAlphabet_init := (fun_mk (st := s_InvalidAlphabet_init) l8 c8 k8).binds (ps := ["self", "alphabet"]) fun _ _ _ _ _ _ us hl => match us, hl with | [_, _], _ => rfl
    i_InvalidAlphabet_init := by rw [E_InvalidAlphabet]; exact q8
    t_InvalidAlphabet_init := t8
    F_is_alphabet := fun_mk l9 c9 k9
    b_is_alphabet := (fun_mk (st := s_is_alphabet) l9 c9 k9).binds (ps := ["alphabet"]) fun _ _ _ _ _ _ us hl => match us, hl with | [_], _ => rfl
    g_is_alphabet := PySem.W.mg_of X G g9
    F_checked_alphabet := fun_mk l10 c10 k10
    b_checked_alphabet := (fun_mk (st := s_checked_alphabet) l10 c10 k10).binds (ps := ["alphabet"]) fun _ _ _ _ _ _ us hl => match us, hl with | [_], _ => rfl
    g_checked_alphabet := PySem.W.mg_of X G g10
    F_Joins_init := fun_mk l11 c11 k11
    b_Joins_init := (fun_mk (st := s_Joins_init) l11 c11 k11).binds (ps := ["self", "alphabet", "pairs"]) fun _ _ _ _ _ _ us hl => match us, hl with | [_, _, _], _ => rfl
    F_law_ask := fun_mk l12 c12 k12
    b_law_ask := (fun_mk (st := s_law_ask) l12 c12 k12).binds (ps := ["alphabet", "pairs"]) fun _ _ _ _ _ _ us hl => match us, hl with | [_, _], _ => rfl
    g_law_ask := PySem.W.mg_of X G g12
    F_law_letters := fun_mk l13 c13 k13
    b_law_letters := (fun_mk (st := s_law_letters) l13 c13 k13).binds (ps := ["alphabet", "text"]) fun _ _ _ _ _ _ us hl => match us, hl with | [_, _], _ => rfl
    g_law_letters := PySem.W.mg_of X G g13
    F_law_join_all := fun_mk l14 c14 k14
    b_law_join_all := (fun_mk (st := s_law_join_all) l14 c14 k14).binds (ps := ["row", "pair", "made"]) fun _ _ _ _ _ _ us hl => match us, hl with | [_, _, _], _ => rfl
    g_law_join_all := PySem.W.mg_of X G g14
    F_law_staged := fun_mk l15 c15 k15
    b_law_staged := (fun_mk (st := s_law_staged) l15 c15 k15).binds (ps := ["many", "pairs", "row"]) fun _ _ _ _ _ _ us hl => match us, hl with | [_, _, _], _ => rfl
    g_law_staged := PySem.W.mg_of X G g15
    F_law_is_proper := fun_mk l16 c16 k16
    b_law_is_proper := (fun_mk (st := s_law_is_proper) l16 c16 k16).binds (ps := ["alphabet", "texts", "pairs", "pair"]) fun _ _ _ _ _ _ us hl => match us, hl with | [_, _, _, _], _ => rfl
    g_law_is_proper := PySem.W.mg_of X G g16
    F_law_due := fun_mk l17 c17 k17
    b_law_due := (fun_mk (st := s_law_due) l17 c17 k17).binds (ps := ["alphabet", "pairs"]) fun _ _ _ _ _ _ us hl => match us, hl with | [_, _], _ => rfl
    g_law_due := PySem.W.mg_of X G g17
    F_law_numbers := fun_mk l18 c18 k18
    b_law_numbers := (fun_mk (st := s_law_numbers) l18 c18 k18).binds (ps := ["cell", "at", "many"]) fun _ _ _ _ _ _ us hl => match us, hl with | [_, _, _], _ => rfl
    g_law_numbers := PySem.W.mg_of X G g18
    F_law_pairs := fun_mk l19 c19 k19
    b_law_pairs := (fun_mk (st := s_law_pairs) l19 c19 k19).binds (ps := ["numbers", "alphabet"]) fun _ _ _ _ _ _ us hl => match us, hl with | [_, _], _ => rfl
    g_law_pairs := PySem.W.mg_of X G g19
    F_law_same := fun_mk l20 c20 k20
    b_law_same := (fun_mk (st := s_law_same) l20 c20 k20).binds (ps := ["actual", "expected"]) fun _ _ _ _ _ _ us hl => match us, hl with | [_, _], _ => rfl
    g_law_same := PySem.W.mg_of X G g20
    F_law := fun_mk l21 c21 k21
    b_law := (fun_mk (st := s_law) l21 c21 k21).binds (ps := ["script"]) fun _ _ _ _ _ _ us hl => match us, hl with | [_], _ => rfl
    g_law := PySem.W.mg_of X G g21
    g_InvalidAlphabet := by rw [E_InvalidAlphabet]; exact PySem.W.mg_of X G gC_InvalidAlphabet
    g_InvalidModel := by rw [E_InvalidModel]; exact PySem.W.mg_of X G gC_InvalidModel
    g_InvalidNumber := by rw [E_InvalidNumber]; exact PySem.W.mg_of X G gC_InvalidNumber
    g_InvalidText := by rw [E_InvalidText]; exact PySem.W.mg_of X G gC_InvalidText
    g_JoinError := by rw [E_JoinError]; exact PySem.W.mg_of X G gC_JoinError
    g_Joins := by rw [E_Joins]; exact PySem.W.mg_of X G gC_Joins
    g_NoChance := by rw [E_NoChance]; exact PySem.W.mg_of X G gC_NoChance
    g_NoPiece := by rw [E_NoPiece]; exact PySem.W.mg_of X G gC_NoPiece
    g_NotCut := by rw [E_NotCut]; exact PySem.W.mg_of X G gC_NotCut
    g_NotProper := by rw [E_NotProper]; exact PySem.W.mg_of X G gC_NotProper
    g_UnknownSign := by rw [E_UnknownSign]; exact PySem.W.mg_of X G gC_UnknownSign
    c_Joins := by rw [E_Joins]; exact ⟨pg_Joins, hd_Joins, po_Joins, sa_Joins⟩
    k_Joins := by rw [E_Joins]; exact ⟨mk_Joins, q11, n11, kC_Joins⟩
    tab := fun c fs hc => by
      have hm := lookup_mem hc
      simp only [DL.tab, List.mem_cons, List.not_mem_nil, or_false, Prod.mk.injEq] at hm
      obtain ⟨rfl, rfl⟩ := hm
      exact (by rw [E_Joins]; exact ⟨⟨pg_Joins, hd_Joins, po_Joins, sa_Joins⟩, fun f hf => by
      simp only [List.mem_cons, List.not_mem_nil, or_false] at hf
      rcases hf with rfl | rfl | rfl | rfl | rfl | rfl
      · exact no_Joins_alphabet
      · exact no_Joins_pairs
      · exact no_Joins_texts
      · exact no_Joins_ranks
      · exact no_Joins_numbers
      · exact no_Joins_longest⟩)
    it := ⟨fun e he => by
      simp only [DL.it, List.mem_cons, List.not_mem_nil, or_false] at he
      rcases he with rfl | rfl | rfl | rfl | rfl | rfl | rfl | rfl | rfl | rfl | rfl | rfl | rfl | rfl | rfl | rfl | rfl | rfl | rfl | rfl | rfl | rfl | rfl | rfl | rfl | rfl | rfl | rfl | rfl | rfl | rfl | rfl | rfl | rfl | rfl | rfl | rfl | rfl | rfl | rfl
      · show PySem.W.kitOne K (.ref (cl "InvalidAlphabet")) (.ref (cl "InvalidAlphabet")) = some true
        rw [E_InvalidAlphabet]
        exact kit0
      · show PySem.W.kitOne K (.ref (cl "NotProper")) (.ref (cl "InvalidAlphabet")) = some false
        rw [E_NotProper, E_InvalidAlphabet]
        exact kit1
      · show PySem.W.kitOne K (.ref (cl "InvalidAlphabet")) (.ref (cl "InvalidModel")) = some false
        rw [E_InvalidAlphabet, E_InvalidModel]
        exact kit2
      · show PySem.W.kitOne K (.ref (cl "NotProper")) (.ref (cl "InvalidModel")) = some false
        rw [E_NotProper, E_InvalidModel]
        exact kit3
      · show PySem.W.kitOne K (.ref (cl "InvalidAlphabet")) (.ref (cl "InvalidNumber")) = some false
        rw [E_InvalidAlphabet, E_InvalidNumber]
        exact kit4
      · show PySem.W.kitOne K (.ref (cl "NotProper")) (.ref (cl "InvalidNumber")) = some false
        rw [E_NotProper, E_InvalidNumber]
        exact kit5
      · show PySem.W.kitOne K (.ref (cl "InvalidAlphabet")) (.ref (cl "InvalidText")) = some false
        rw [E_InvalidAlphabet, E_InvalidText]
        exact kit6
      · show PySem.W.kitOne K (.ref (cl "NotProper")) (.ref (cl "InvalidText")) = some false
        rw [E_NotProper, E_InvalidText]
        exact kit7
      · show PySem.W.kitOne K (.ref (cl "InvalidAlphabet")) (.ref (cl "NoChance")) = some false
        rw [E_InvalidAlphabet, E_NoChance]
        exact kit8
      · show PySem.W.kitOne K (.ref (cl "NotProper")) (.ref (cl "NoChance")) = some false
        rw [E_NotProper, E_NoChance]
        exact kit9
      · show PySem.W.kitOne K (.ref (cl "InvalidAlphabet")) (.ref (cl "NoPiece")) = some false
        rw [E_InvalidAlphabet, E_NoPiece]
        exact kit10
      · show PySem.W.kitOne K (.ref (cl "NotProper")) (.ref (cl "NoPiece")) = some false
        rw [E_NotProper, E_NoPiece]
        exact kit11
      · show PySem.W.kitOne K (.ref (cl "InvalidAlphabet")) (.ref (cl "NotCut")) = some false
        rw [E_InvalidAlphabet, E_NotCut]
        exact kit12
      · show PySem.W.kitOne K (.ref (cl "NotProper")) (.ref (cl "NotCut")) = some false
        rw [E_NotProper, E_NotCut]
        exact kit13
      · show PySem.W.kitOne K (.ref (cl "InvalidAlphabet")) (.ref (cl "NotProper")) = some false
        rw [E_InvalidAlphabet, E_NotProper]
        exact kit14
      · show PySem.W.kitOne K (.ref (cl "NotProper")) (.ref (cl "NotProper")) = some true
        rw [E_NotProper]
        exact kit15
      · show PySem.W.kitOne K (.ref (cl "InvalidAlphabet")) (.ref (cl "UnknownSign")) = some false
        rw [E_InvalidAlphabet, E_UnknownSign]
        exact kit16
      · show PySem.W.kitOne K (.ref (cl "NotProper")) (.ref (cl "UnknownSign")) = some false
        rw [E_NotProper, E_UnknownSign]
        exact kit17
      · show PySem.W.kitOne K (.ref (cl "InvalidAlphabet")) (.type "ValueError") = some true
        rw [E_InvalidAlphabet]
        exact kit18
      · show PySem.W.kitOne K (.ref (cl "NotProper")) (.type "ValueError") = some true
        rw [E_NotProper]
        exact kit19
      · show PySem.W.kitOne K (.type "NoneType") (.type "bool") = some false
        exact kit20
      · show PySem.W.kitOne K (.type "bool") (.type "bool") = some true
        exact kit21
      · show PySem.W.kitOne K (.type "int") (.type "bool") = some false
        exact kit22
      · show PySem.W.kitOne K (.type "str") (.type "bool") = some false
        exact kit23
      · show PySem.W.kitOne K (.type "tuple") (.type "bool") = some false
        exact kit24
      · show PySem.W.kitOne K (.type "NoneType") (.type "int") = some false
        exact kit25
      · show PySem.W.kitOne K (.type "bool") (.type "int") = some true
        exact kit26
      · show PySem.W.kitOne K (.type "int") (.type "int") = some true
        exact kit27
      · show PySem.W.kitOne K (.type "str") (.type "int") = some false
        exact kit28
      · show PySem.W.kitOne K (.type "tuple") (.type "int") = some false
        exact kit29
      · show PySem.W.kitOne K (.type "NoneType") (.type "str") = some false
        exact kit30
      · show PySem.W.kitOne K (.type "bool") (.type "str") = some false
        exact kit31
      · show PySem.W.kitOne K (.type "int") (.type "str") = some false
        exact kit32
      · show PySem.W.kitOne K (.type "str") (.type "str") = some true
        exact kit33
      · show PySem.W.kitOne K (.type "tuple") (.type "str") = some false
        exact kit34
      · show PySem.W.kitOne K (.type "NoneType") (.type "tuple") = some false
        exact kit35
      · show PySem.W.kitOne K (.type "bool") (.type "tuple") = some false
        exact kit36
      · show PySem.W.kitOne K (.type "int") (.type "tuple") = some false
        exact kit37
      · show PySem.W.kitOne K (.type "str") (.type "tuple") = some false
        exact kit38
      · show PySem.W.kitOne K (.type "tuple") (.type "tuple") = some true
        exact kit39, fun c hc => absurd hc (by simp [ito])⟩
    e_InvalidAlphabet := by
      rw [E_InvalidAlphabet]
      refine ⟨⟨⟨_, _, _, _, _, _, _, _, _, _, _, _, _, _, _, x_InvalidAlphabet, xr_InvalidAlphabet⟩, xs_InvalidAlphabet, xe_InvalidAlphabet, xt_InvalidAlphabet, xk_InvalidAlphabet⟩, fun f hf => ?_⟩
      simp only [List.mem_cons, List.not_mem_nil, or_false] at hf
      rcases hf with rfl
      · exact xn_InvalidAlphabet_alphabet
    e_NotProper := by
      rw [E_NotProper]
      refine ⟨⟨⟨_, _, _, _, _, _, _, _, _, _, _, _, _, _, _, x_NotProper, xr_NotProper⟩, xs_NotProper, xe_NotProper, xt_NotProper, xk_NotProper⟩, fun f hf => ?_⟩
      simp only [List.mem_cons, List.not_mem_nil, or_false] at hf
      rcases hf with rfl
      · exact xn_NotProper_rank
    xk_law_ask := fun e he => by
      simp only [xm_law_ask, List.mem_cons, List.not_mem_nil, or_false] at he
      rcases he with rfl | rfl
      · show PySem.W.exmOne K (.ref (cl "InvalidAlphabet")) _ = _
        rw [E_InvalidAlphabet, E_JoinError]; exact exm_of he_JoinError hi_JoinError ht_JoinError ex_JoinError_InvalidAlphabet
      · show PySem.W.exmOne K (.ref (cl "NotProper")) _ = _
        rw [E_NotProper, E_JoinError]; exact exm_of he_JoinError hi_JoinError ht_JoinError ex_JoinError_NotProper
    xfc := fun c hc => by
      have hm := lookup_mem hc
      simp only [xm_law_ask, List.mem_cons, List.not_mem_nil, or_false, Prod.mk.injEq, and_true] at hm
      rcases hm with rfl | rfl
      · rw [E_InvalidAlphabet]; exact ⟨xg_InvalidAlphabet, xh_InvalidAlphabet, xe_InvalidAlphabet, xd_InvalidAlphabet⟩
      · rw [E_NotProper]; exact ⟨xg_NotProper, xh_NotProper, xe_NotProper, xd_NotProper⟩
    xfn := fun c hc => by
      have hm := lookup_mem hc
      simp only [xm_law_ask, List.mem_cons, List.not_mem_nil, or_false, Prod.mk.injEq, and_true] at hm
      rcases hm with rfl | rfl
      · rw [E_InvalidAlphabet]; exact fun f hf => by
          simp only [exfs, List.mem_cons, List.not_mem_nil, or_false] at hf
          rcases hf with rfl | rfl
          · exact xn_InvalidAlphabet_alphabet
          · exact xn_InvalidAlphabet_rank
      · rw [E_NotProper]; exact fun f hf => by
          simp only [exfs, List.mem_cons, List.not_mem_nil, or_false] at hf
          rcases hf with rfl | rfl
          · exact xn_NotProper_alphabet
          · exact xn_NotProper_rank
    exi := fun c hc => by
      have hm := lookup_mem hc
      simp only [xm_law_ask, List.mem_cons, List.not_mem_nil, or_false, Prod.mk.injEq, and_true] at hm
      rcases hm with rfl | rfl
      · rw [E_InvalidAlphabet]; exact ⟨xi_InvalidAlphabet, xg_InvalidAlphabet, xh_InvalidAlphabet, xe_InvalidAlphabet, xc_InvalidAlphabet, hget, htk, xm_InvalidAlphabet⟩
      · rw [E_NotProper]; exact ⟨xi_NotProper, xg_NotProper, xh_NotProper, xe_NotProper, xc_NotProper, hget, htk, xm_NotProper⟩
    c_LONGEST_PIECE := ⟨_, PySem.W.mg_of X G v_LONGEST_PIECE⟩
    c_MOST_LETTERS := ⟨_, PySem.W.mg_of X G v_MOST_LETTERS⟩
    n_ValueError := PySem.W.mg_none_of X G u_ValueError
    n_abs := PySem.W.mg_none_of X G u_abs
    n_bool := PySem.W.mg_none_of X G u_bool
    n_enumerate := PySem.W.mg_none_of X G u_enumerate
    n_int := PySem.W.mg_none_of X G u_int
    n_isinstance := PySem.W.mg_none_of X G u_isinstance
    n_len := PySem.W.mg_none_of X G u_len
    n_list := PySem.W.mg_none_of X G u_list
    n_max := PySem.W.mg_none_of X G u_max
    n_min := PySem.W.mg_none_of X G u_min
    n_range := PySem.W.mg_none_of X G u_range
    n_sorted := PySem.W.mg_none_of X G u_sorted
    n_str := PySem.W.mg_none_of X G u_str
    n_tuple := PySem.W.mg_none_of X G u_tuple }
  refine ⟨fd 21, fun s u => .of_eq rfl, fun base _ _ => (ok_law (P := P) (w := w) (base := base) T).imp fun vs H Q E h => ?_⟩
  obtain ⟨a, ns, rfl, hl, hS, hQ⟩ := h
  exact spD_law hS (law_pure ns hl) hQ
end DL
open PySem PySem.W PyProof.Rows
set_option maxHeartbeats 0 in
theorem PySem.Challenge.cw_piecehouse_k23_proper_lists_holds : PySem.Challenge.rw_piecehouse_k23_proper_lists.Holds := by
  w_on; o_law; k_head; (case hw => w_witness2)
  k_fill
  refine DL.dl_walk (k := 10) (x := "script") rfl rfl ⟨rfl, by decide, by decide⟩ (fun w h Y => PySem.W.kIn_of Y) ?F
  case F =>
    intro w mg fa h KX G hmg
    refine' DL.all_mk KX G hmg ?zz_gC_Joins ?zz_gC_InvalidAlphabet ?zz_gC_NotProper ?zz_gC_JoinError ?zz_gC_InvalidModel ?zz_gC_InvalidNumber ?zz_gC_InvalidText ?zz_gC_NoChance ?zz_gC_NoPiece ?zz_gC_NotCut ?zz_gC_UnknownSign ?zz_x_InvalidAlphabet ?zz_xr_InvalidAlphabet ?zz_xs_InvalidAlphabet ?zz_xe_InvalidAlphabet ?zz_xt_InvalidAlphabet ?zz_xk_InvalidAlphabet ?zz_xg_InvalidAlphabet ?zz_xh_InvalidAlphabet ?zz_xd_InvalidAlphabet ?zz_xc_InvalidAlphabet ?zz_xm_InvalidAlphabet ?zz_xi_InvalidAlphabet ?zz_xn_InvalidAlphabet_alphabet ?zz_xn_InvalidAlphabet_rank ?zz_ex_JoinError_InvalidAlphabet ?zz_x_NotProper ?zz_xr_NotProper ?zz_xs_NotProper ?zz_xe_NotProper ?zz_xt_NotProper ?zz_xk_NotProper ?zz_xg_NotProper ?zz_xh_NotProper ?zz_xd_NotProper ?zz_xc_NotProper ?zz_xm_NotProper ?zz_xi_NotProper ?zz_xn_NotProper_alphabet ?zz_xn_NotProper_rank ?zz_ex_JoinError_NotProper ?zz_he_JoinError ?zz_hi_JoinError ?zz_ht_JoinError ?zz_hget ?zz_htk ?zz_pg_Joins ?zz_hd_Joins ?zz_po_Joins ?zz_sa_Joins ?zz_mk_Joins ?zz_kC_Joins ?zz_no_Joins_alphabet ?zz_no_Joins_pairs ?zz_no_Joins_texts ?zz_no_Joins_ranks ?zz_no_Joins_numbers ?zz_no_Joins_longest ?zz_g0 ?zz_l0 ?zz_c0 ?zz_k0 ?zz_g1 ?zz_l1 ?zz_c1 ?zz_k1 ?zz_g2 ?zz_l2 ?zz_c2 ?zz_k2 ?zz_g3 ?zz_l3 ?zz_c3 ?zz_k3 ?zz_g4 ?zz_l4 ?zz_c4 ?zz_k4 ?zz_q5 ?zz_n5 ?zz_l5 ?zz_c5 ?zz_k5 ?zz_q6 ?zz_t6 ?zz_l6 ?zz_c6 ?zz_k6 ?zz_q7 ?zz_n7 ?zz_l7 ?zz_c7 ?zz_k7 ?zz_q8 ?zz_t8 ?zz_l8 ?zz_c8 ?zz_k8 ?zz_g9 ?zz_l9 ?zz_c9 ?zz_k9 ?zz_g10 ?zz_l10 ?zz_c10 ?zz_k10 ?zz_q11 ?zz_n11 ?zz_l11 ?zz_c11 ?zz_k11 ?zz_g12 ?zz_l12 ?zz_c12 ?zz_k12 ?zz_g13 ?zz_l13 ?zz_c13 ?zz_k13 ?zz_g14 ?zz_l14 ?zz_c14 ?zz_k14 ?zz_g15 ?zz_l15 ?zz_c15 ?zz_k15 ?zz_g16 ?zz_l16 ?zz_c16 ?zz_k16 ?zz_g17 ?zz_l17 ?zz_c17 ?zz_k17 ?zz_g18 ?zz_l18 ?zz_c18 ?zz_k18 ?zz_g19 ?zz_l19 ?zz_c19 ?zz_k19 ?zz_g20 ?zz_l20 ?zz_c20 ?zz_k20 ?zz_g21 ?zz_l21 ?zz_c21 ?zz_k21 ?zz_v_LONGEST_PIECE ?zz_v_MOST_LETTERS ?zz_u_ValueError ?zz_u_abs ?zz_u_bool ?zz_u_enumerate ?zz_u_int ?zz_u_isinstance ?zz_u_len ?zz_u_list ?zz_u_max ?zz_u_min ?zz_u_range ?zz_u_sorted ?zz_u_str ?zz_u_tuple ?zz_kit0 ?zz_kit1 ?zz_kit2 ?zz_kit3 ?zz_kit4 ?zz_kit5 ?zz_kit6 ?zz_kit7 ?zz_kit8 ?zz_kit9 ?zz_kit10 ?zz_kit11 ?zz_kit12 ?zz_kit13 ?zz_kit14 ?zz_kit15 ?zz_kit16 ?zz_kit17 ?zz_kit18 ?zz_kit19 ?zz_kit20 ?zz_kit21 ?zz_kit22 ?zz_kit23 ?zz_kit24 ?zz_kit25 ?zz_kit26 ?zz_kit27 ?zz_kit28 ?zz_kit29 ?zz_kit30 ?zz_kit31 ?zz_kit32 ?zz_kit33 ?zz_kit34 ?zz_kit35 ?zz_kit36 ?zz_kit37 ?zz_kit38 ?zz_kit39
    (case zz_gC_Joins => k_is)
    (case zz_gC_InvalidAlphabet => k_is)
    (case zz_gC_NotProper => k_is)
    (case zz_gC_JoinError => k_is)
    (case zz_gC_InvalidModel => k_is)
    (case zz_gC_InvalidNumber => k_is)
    (case zz_gC_InvalidText => k_is)
    (case zz_gC_NoChance => k_is)
    (case zz_gC_NoPiece => k_is)
    (case zz_gC_NotCut => k_is)
    (case zz_gC_UnknownSign => k_is)
    (case zz_x_InvalidAlphabet => k_is)
    (case zz_xr_InvalidAlphabet => first | rfl | decide | k_is)
    (case zz_xs_InvalidAlphabet => k_is)
    (case zz_xe_InvalidAlphabet => k_is)
    (case zz_xt_InvalidAlphabet => k_is)
    (case zz_xk_InvalidAlphabet => k_is)
    (case zz_xg_InvalidAlphabet => k_is)
    (case zz_xh_InvalidAlphabet => k_is)
    (case zz_xd_InvalidAlphabet => k_is)
    (case zz_xc_InvalidAlphabet => k_is)
    (case zz_xm_InvalidAlphabet => k_is)
    (case zz_xi_InvalidAlphabet => k_is)
    (case zz_xn_InvalidAlphabet_alphabet => k_is)
    (case zz_xn_InvalidAlphabet_rank => k_is)
    (case zz_ex_JoinError_InvalidAlphabet => k_is)
    (case zz_x_NotProper => k_is)
    (case zz_xr_NotProper => first | rfl | decide | k_is)
    (case zz_xs_NotProper => k_is)
    (case zz_xe_NotProper => k_is)
    (case zz_xt_NotProper => k_is)
    (case zz_xk_NotProper => k_is)
    (case zz_xg_NotProper => k_is)
    (case zz_xh_NotProper => k_is)
    (case zz_xd_NotProper => k_is)
    (case zz_xc_NotProper => k_is)
    (case zz_xm_NotProper => k_is)
    (case zz_xi_NotProper => k_is)
    (case zz_xn_NotProper_alphabet => k_is)
    (case zz_xn_NotProper_rank => k_is)
    (case zz_ex_JoinError_NotProper => k_is)
    (case zz_he_JoinError => k_is)
    (case zz_hi_JoinError => k_is)
    (case zz_ht_JoinError => k_is)
    (case zz_hget => k_is)
    (case zz_htk => k_is)
    (case zz_pg_Joins => k_is)
    (case zz_hd_Joins => k_is)
    (case zz_po_Joins => k_is)
    (case zz_sa_Joins => k_is)
    (case zz_mk_Joins => k_is)
    (case zz_kC_Joins => k_is)
    (case zz_no_Joins_alphabet => k_is)
    (case zz_no_Joins_pairs => k_is)
    (case zz_no_Joins_texts => k_is)
    (case zz_no_Joins_ranks => k_is)
    (case zz_no_Joins_numbers => k_is)
    (case zz_no_Joins_longest => k_is)
    (case zz_g0 => k_is)
    (case zz_l0 => k_is)
    (case zz_c0 => k_is)
    (case zz_k0 => k_is)
    (case zz_g1 => k_is)
    (case zz_l1 => k_is)
    (case zz_c1 => k_is)
    (case zz_k1 => k_is)
    (case zz_g2 => k_is)
    (case zz_l2 => k_is)
    (case zz_c2 => k_is)
    (case zz_k2 => k_is)
    (case zz_g3 => k_is)
    (case zz_l3 => k_is)
    (case zz_c3 => k_is)
    (case zz_k3 => k_is)
    (case zz_g4 => k_is)
    (case zz_l4 => k_is)
    (case zz_c4 => k_is)
    (case zz_k4 => k_is)
    (case zz_q5 => k_is)
    (case zz_n5 => k_is)
    (case zz_l5 => k_is)
    (case zz_c5 => k_is)
    (case zz_k5 => k_is)
    (case zz_q6 => k_is)
    (case zz_t6 => k_is)
    (case zz_l6 => k_is)
    (case zz_c6 => k_is)
    (case zz_k6 => k_is)
    (case zz_q7 => k_is)
    (case zz_n7 => k_is)
    (case zz_l7 => k_is)
    (case zz_c7 => k_is)
    (case zz_k7 => k_is)
    (case zz_q8 => k_is)
    (case zz_t8 => k_is)
    (case zz_l8 => k_is)
    (case zz_c8 => k_is)
    (case zz_k8 => k_is)
    (case zz_g9 => k_is)
    (case zz_l9 => k_is)
    (case zz_c9 => k_is)
    (case zz_k9 => k_is)
    (case zz_g10 => k_is)
    (case zz_l10 => k_is)
    (case zz_c10 => k_is)
    (case zz_k10 => k_is)
    (case zz_q11 => k_is)
    (case zz_n11 => k_is)
    (case zz_l11 => k_is)
    (case zz_c11 => k_is)
    (case zz_k11 => k_is)
    (case zz_g12 => k_is)
    (case zz_l12 => k_is)
    (case zz_c12 => k_is)
    (case zz_k12 => k_is)
    (case zz_g13 => k_is)
    (case zz_l13 => k_is)
    (case zz_c13 => k_is)
    (case zz_k13 => k_is)
    (case zz_g14 => k_is)
    (case zz_l14 => k_is)
    (case zz_c14 => k_is)
    (case zz_k14 => k_is)
    (case zz_g15 => k_is)
    (case zz_l15 => k_is)
    (case zz_c15 => k_is)
    (case zz_k15 => k_is)
    (case zz_g16 => k_is)
    (case zz_l16 => k_is)
    (case zz_c16 => k_is)
    (case zz_k16 => k_is)
    (case zz_g17 => k_is)
    (case zz_l17 => k_is)
    (case zz_c17 => k_is)
    (case zz_k17 => k_is)
    (case zz_g18 => k_is)
    (case zz_l18 => k_is)
    (case zz_c18 => k_is)
    (case zz_k18 => k_is)
    (case zz_g19 => k_is)
    (case zz_l19 => k_is)
    (case zz_c19 => k_is)
    (case zz_k19 => k_is)
    (case zz_g20 => k_is)
    (case zz_l20 => k_is)
    (case zz_c20 => k_is)
    (case zz_k20 => k_is)
    (case zz_g21 => k_is)
    (case zz_l21 => k_is)
    (case zz_c21 => k_is)
    (case zz_k21 => k_is)
    (case zz_v_LONGEST_PIECE => k_is)
    (case zz_v_MOST_LETTERS => k_is)
    (case zz_u_ValueError => k_is)
    (case zz_u_abs => k_is)
    (case zz_u_bool => k_is)
    (case zz_u_enumerate => k_is)
    (case zz_u_int => k_is)
    (case zz_u_isinstance => k_is)
    (case zz_u_len => k_is)
    (case zz_u_list => k_is)
    (case zz_u_max => k_is)
    (case zz_u_min => k_is)
    (case zz_u_range => k_is)
    (case zz_u_sorted => k_is)
    (case zz_u_str => k_is)
    (case zz_u_tuple => k_is)
    (case zz_kit0 => first | kit_is | k_is)
    (case zz_kit1 => first | kit_is | k_is)
    (case zz_kit2 => first | kit_is | k_is)
    (case zz_kit3 => first | kit_is | k_is)
    (case zz_kit4 => first | kit_is | k_is)
    (case zz_kit5 => first | kit_is | k_is)
    (case zz_kit6 => first | kit_is | k_is)
    (case zz_kit7 => first | kit_is | k_is)
    (case zz_kit8 => first | kit_is | k_is)
    (case zz_kit9 => first | kit_is | k_is)
    (case zz_kit10 => first | kit_is | k_is)
    (case zz_kit11 => first | kit_is | k_is)
    (case zz_kit12 => first | kit_is | k_is)
    (case zz_kit13 => first | kit_is | k_is)
    (case zz_kit14 => first | kit_is | k_is)
    (case zz_kit15 => first | kit_is | k_is)
    (case zz_kit16 => first | kit_is | k_is)
    (case zz_kit17 => first | kit_is | k_is)
    (case zz_kit18 => first | kit_is | k_is)
    (case zz_kit19 => first | kit_is | k_is)
    (case zz_kit20 => first | kit_is | k_is)
    (case zz_kit21 => first | kit_is | k_is)
    (case zz_kit22 => first | kit_is | k_is)
    (case zz_kit23 => first | kit_is | k_is)
    (case zz_kit24 => first | kit_is | k_is)
    (case zz_kit25 => first | kit_is | k_is)
    (case zz_kit26 => first | kit_is | k_is)
    (case zz_kit27 => first | kit_is | k_is)
    (case zz_kit28 => first | kit_is | k_is)
    (case zz_kit29 => first | kit_is | k_is)
    (case zz_kit30 => first | kit_is | k_is)
    (case zz_kit31 => first | kit_is | k_is)
    (case zz_kit32 => first | kit_is | k_is)
    (case zz_kit33 => first | kit_is | k_is)
    (case zz_kit34 => first | kit_is | k_is)
    (case zz_kit35 => first | kit_is | k_is)
    (case zz_kit36 => first | kit_is | k_is)
    (case zz_kit37 => first | kit_is | k_is)
    (case zz_kit38 => first | kit_is | k_is)
    (case zz_kit39 => first | kit_is | k_is)
