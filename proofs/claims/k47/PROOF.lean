import PyProof.Rows.All
import HandS.Comp
import HandS.Dict
import HandS.Words
import HandS.Iter
import HandS.Text
import HandS.More
import HandS.Conv
import HandS.Zip
import HandS.WordsExc
import HandS.WordsDict
import HandS.Wide
import HandS.IsInst
import HandS.ExcCtx
import HandS.ExcIs
import HandS.HotCalls
import KE.DataCmp
import HandS.SetFor
import HandS.Strs
import HandS.SortInts
import HandS.TryMany
import HandS.TupLe
import HandS.SortRule
import HandS.Small
import KE.KStateDown
import HandS.Defaults
import HandS.Head0
import HandS.Head1
import HandS.Head2
import HandS.HeadEnd
import HandS.HeadHook1
import HandS.HeadHook2
import HandS.Style
import HandS.Rev
import HandS.Exc
import KE.SortData
import KE.DataMinMax
import HandS.SortKw
import HandS.Flt
import KE.DataFind
import HandS.Deep
import PyProof.Rows.NestShow
import KE.KEqNest
import HandS.NoneIn
import KE.KRevSl
import PySem.Challenge.RW_pasthall_k47_led
set_option Elab.async false
set_option linter.all false
set_option autoImplicit false
set_option maxRecDepth 100000
/-! The functional layer, part A: data, what stands for them in a heap, environments. -/
namespace FL
open PySem PySem.Spec PyProof.Rows L2
/-- data -/
inductive D where
  | non | bl (b : Bool) | int (i : Int) | str (z : Str)
  | lst (xs : List D) | tup (xs : List D)
  | dK (ks : List Key) (xs : List D) | dT (ks : List (List Key)) (xs : List D)
  | ins (C : Str) (ns : List Str) (xs : List D)
  | scr (ns : List Int)
  | exn (a : Addr)
  deriving Inhabited
/-- a tree of owned objects with frozen leaves -/
inductive OT where
  | d (x : D)
  | lst (ts : List OT) | tup (ts : List OT)
  | dK (ks : List Key) (ts : List OT) | dT (ks : List (List Key)) (ts : List OT)
  | ins (C : Str) (ns : List Str) (ts : List OT)
  deriving Inhabited
/-- an exception: its class's name, the field paths where it has one -/
structure Exn where
  c : Str
  p : Option D := none
inductive Res (α : Type) where
  | ok (a : α) | ex (c : Exn) | bad
def Res.bind {α β : Type} (r : Res α) (f : α → Res β) : Res β := match r with
  | .ok a => f a | .ex c => .ex c | .bad => .bad
def Res.map {α β : Type} (f : α → β) (r : Res α) : Res β := r.bind fun a => .ok (f a)
@[simp] theorem Res.bind_ok {α β : Type} (a : α) (f : α → Res β) : (Res.ok a).bind f = f a := rfl
@[simp] theorem Res.bind_ex {α β : Type} (c : Exn) (f : α → Res β) : (Res.ex c : Res α).bind f = .ex c := rfl
@[simp] theorem Res.bind_bad {α β : Type} (f : α → Res β) : (Res.bad : Res α).bind f = .bad := rfl
mutual
def fz : OT → D
  | .d x => x
  | .lst ts => .lst (fzs ts)
  | .tup ts => .tup (fzs ts)
  | .dK ks ts => .dK ks (fzs ts)
  | .dT ks ts => .dT ks (fzs ts)
  | .ins C ns ts => .ins C ns (fzs ts)
def fzs : List OT → List D
  | [] => []
  | t :: ts => fz t :: fzs ts
end
theorem fzs_eq : ∀ ts : List OT, fzs ts = ts.map fz
  | [] => rfl
  | t :: ts => by rw [fzs, fzs_eq ts]; rfl
theorem fzs_len (ts : List OT) : (fzs ts).length = ts.length := by rw [fzs_eq, List.length_map]
section
variable (K : PySem.W.Frag) (mg : Str → Option Value)
mutual
/-- the value v stands for the datum, by the frozen heap G -/
def R (G : Hp) : D → V → Prop
  | .non, v => v = .non
  | .bl b, v => v = .bl b
  | .int i, v => v = .int i
  | .str z, v => v = .str z ∧ z.length ≤ sizeLine ∧ PyData.strOk z = true
  | .lst ds, v => ∃ a vs, v = .ref a ∧ ds.length ≤ sizeLine ∧ G a = some (.lst vs) ∧ Rs G ds vs
  | .tup ds, v => ∃ a vs, v = .ref a ∧ ds.length ≤ sizeLine ∧ G a = some (.tup vs) ∧ Rs G ds vs
  | .dK ks ds, v => ∃ a vs, v = .ref a ∧ ks.length = ds.length ∧ Rd G a (.dK (ks.zip vs)) ∧ Rs G ds vs
  | .dT ks ds, v => ∃ a vs, v = .ref a ∧ ks.length = ds.length ∧ Rd G a (.dT (ks.zip vs)) ∧ Rs G ds vs
  | .ins C ns ds, v => ∃ a ca dx vs, v = .ref a ∧ mg C = some (.ref ca) ∧ ns.length = ds.length ∧ G a = some (.ins ca dx (ns.zip vs)) ∧ Rs G ds vs
  | .scr ns, v => ∃ a, v = .ref a ∧ SqL K G a (ns.map V.int)
  | .exn a, v => v = .ref a
def Rs (G : Hp) : List D → List V → Prop
  | [], vs => vs = []
  | d :: ds, vs => ∃ v r, vs = v :: r ∧ R G d v ∧ Rs G ds r
end
mutual
/-- .. by the heap H at the owned places fp, and the frozen heap G -/
def RO (G H : Hp) : OT → V → List Addr → Prop
  | .d x, v, fp => fp = [] ∧ R K mg G x v
  | .lst ts, v, fp => ∃ a vs fs, v = .ref a ∧ fp = a :: fs ∧ ts.length ≤ sizeLine ∧ H a = some (.lst vs) ∧ ROs G H ts vs fs
  | .tup ts, v, fp => ∃ a vs fs, v = .ref a ∧ fp = a :: fs ∧ ts.length ≤ sizeLine ∧ H a = some (.tup vs) ∧ ROs G H ts vs fs
  | .dK ks ts, v, fp => ∃ a vs fs, v = .ref a ∧ fp = a :: fs ∧ ks.length = ts.length ∧ H a = some (.dK (ks.zip vs)) ∧ ROs G H ts vs fs
  | .dT ks ts, v, fp => ∃ a vs fs, v = .ref a ∧ fp = a :: fs ∧ ks.length = ts.length ∧ H a = some (.dT (ks.zip vs)) ∧ ROs G H ts vs fs
  | .ins C ns ts, v, fp => ∃ a ca dx vs fs, v = .ref a ∧ mg C = some (.ref ca) ∧ fp = a :: fs ∧ ns.length = ts.length ∧ H a = some (.ins ca dx (ns.zip vs)) ∧ ROs G H ts vs fs
def ROs (G H : Hp) : List OT → List V → List Addr → Prop
  | [], vs, fp => vs = [] ∧ fp = []
  | t :: ts, vs, fp => ∃ v r f1 f2, vs = v :: r ∧ fp = f1 ++ f2 ∧ RO G H t v f1 ∧ ROs G H ts r f2
end
end
section
variable {K : PySem.W.Frag} {mg : Str → Option Value} {G G' H H' : Hp}
theorem Rd.mono {a : Addr} {u : HO} (g : Same G G') (h : Rd G a u) : Rd G' a u := by
  rcases h with h | ⟨o, h⟩
  · exact .inl (g _ _ h)
  · exact .inr ⟨o, g _ _ h⟩
mutual
theorem R.mono (g : Same G G') : ∀ {d : D} {v : V}, R K mg G d v → R K mg G' d v
  | .non, _, h => h
  | .bl _, _, h => h
  | .int _, _, h => h
  | .str _, _, h => h
  | .lst _, _, ⟨a, vs, e, l, h, r⟩ => ⟨a, vs, e, l, g _ _ h, Rs.mono g r⟩
  | .tup _, _, ⟨a, vs, e, l, h, r⟩ => ⟨a, vs, e, l, g _ _ h, Rs.mono g r⟩
  | .dK _ _, _, ⟨a, vs, e, l, h, r⟩ => ⟨a, vs, e, l, Rd.mono g h, Rs.mono g r⟩
  | .dT _ _, _, ⟨a, vs, e, l, h, r⟩ => ⟨a, vs, e, l, Rd.mono g h, Rs.mono g r⟩
  | .ins _ _ _, _, ⟨a, ca, dx, vs, e, c, l, h, r⟩ => ⟨a, ca, dx, vs, e, c, l, g _ _ h, Rs.mono g r⟩
  | .scr _, _, ⟨a, e, h⟩ => ⟨a, e, g.seq h⟩
  | .exn _, _, h => h
theorem Rs.mono (g : Same G G') : ∀ {ds : List D} {vs : List V}, Rs K mg G ds vs → Rs K mg G' ds vs
  | [], _, h => h
  | _ :: _, _, ⟨v, r, e, h, t⟩ => ⟨v, r, e, R.mono g h, Rs.mono g t⟩
end
theorem Rs.len : ∀ {ds : List D} {vs : List V}, Rs K mg G ds vs → vs.length = ds.length
  | [], _, h => by rw [h]; rfl
  | _ :: _, _, ⟨v, r, e, h, t⟩ => by rw [e, List.length_cons, List.length_cons, Rs.len t]
theorem Rs.nil : Rs K mg G [] [] := rfl
theorem Rs.cons {d : D} {v : V} {ds : List D} {vs : List V} (h : R K mg G d v) (t : Rs K mg G ds vs) : Rs K mg G (d :: ds) (v :: vs) := ⟨v, vs, rfl, h, t⟩
theorem Rs.get : ∀ {ds : List D} {vs : List V} {i : Nat} {d : D}, Rs K mg G ds vs → ds[i]? = some d → ∃ v, vs[i]? = some v ∧ R K mg G d v
  | [], _, _, _, _, h => by simp at h
  | d :: ds, _, 0, x, ⟨v, r, e, h, t⟩, q => by
    subst e
    simp at q
    subst q
    exact ⟨v, rfl, h⟩
  | d :: ds, _, i + 1, x, ⟨v, r, e, h, t⟩, q => by
    subst e
    simp at q
    obtain ⟨u, a, b⟩ := Rs.get t q
    exact ⟨u, by simpa using a, b⟩
theorem Rs.append : ∀ {ds es : List D} {vs us : List V}, Rs K mg G ds vs → Rs K mg G es us → Rs K mg G (ds ++ es) (vs ++ us)
  | [], _, _, _, h, q => by rw [h]; exact q
  | _ :: _, _, _, _, ⟨v, r, e, h, t⟩, q => by rw [e]; exact ⟨v, _, rfl, h, Rs.append t q⟩
theorem Rs.take : ∀ {ds : List D} {vs : List V} (n : Nat), Rs K mg G ds vs → Rs K mg G (ds.take n) (vs.take n)
  | _, _, 0, _ => by rw [List.take_zero, List.take_zero]; exact rfl
  | [], _, n + 1, h => by rw [h]; rfl
  | _ :: _, _, n + 1, ⟨v, r, e, h, t⟩ => by rw [e]; exact ⟨v, _, rfl, h, Rs.take n t⟩
theorem Rs.drop : ∀ {ds : List D} {vs : List V} (n : Nat), Rs K mg G ds vs → Rs K mg G (ds.drop n) (vs.drop n)
  | _, _, 0, h => h
  | [], _, n + 1, h => by rw [h]; rfl
  | _ :: _, _, n + 1, ⟨v, r, e, h, t⟩ => by rw [e]; exact Rs.drop n t
mutual
theorem RO.frame (g : Same G G') : ∀ {t : OT} {v : V} {fp : List Addr}, (∀ p ∈ fp, H' p = H p) → RO K mg G H t v fp → RO K mg G' H' t v fp
  | .d _, _, _, _, ⟨e, h⟩ => ⟨e, h.mono g⟩
  | .lst _, _, fp, f, ⟨a, vs, fs, e, e2, l, h, r⟩ => ⟨a, vs, fs, e, e2, l, by rw [f a (by rw [e2]; exact List.mem_cons_self)]; exact h, ROs.frame g (fun p hp => f p (by rw [e2]; exact List.mem_cons_of_mem _ hp)) r⟩
  | .tup _, _, fp, f, ⟨a, vs, fs, e, e2, l, h, r⟩ => ⟨a, vs, fs, e, e2, l, by rw [f a (by rw [e2]; exact List.mem_cons_self)]; exact h, ROs.frame g (fun p hp => f p (by rw [e2]; exact List.mem_cons_of_mem _ hp)) r⟩
  | .dK _ _, _, fp, f, ⟨a, vs, fs, e, e2, l, h, r⟩ => ⟨a, vs, fs, e, e2, l, by rw [f a (by rw [e2]; exact List.mem_cons_self)]; exact h, ROs.frame g (fun p hp => f p (by rw [e2]; exact List.mem_cons_of_mem _ hp)) r⟩
  | .dT _ _, _, fp, f, ⟨a, vs, fs, e, e2, l, h, r⟩ => ⟨a, vs, fs, e, e2, l, by rw [f a (by rw [e2]; exact List.mem_cons_self)]; exact h, ROs.frame g (fun p hp => f p (by rw [e2]; exact List.mem_cons_of_mem _ hp)) r⟩
  | .ins _ _ _, _, fp, f, ⟨a, ca, dx, vs, fs, e, c, e2, l, h, r⟩ => ⟨a, ca, dx, vs, fs, e, c, e2, l, by rw [f a (by rw [e2]; exact List.mem_cons_self)]; exact h, ROs.frame g (fun p hp => f p (by rw [e2]; exact List.mem_cons_of_mem _ hp)) r⟩
theorem ROs.frame (g : Same G G') : ∀ {ts : List OT} {vs : List V} {fp : List Addr}, (∀ p ∈ fp, H' p = H p) → ROs K mg G H ts vs fp → ROs K mg G' H' ts vs fp
  | [], _, _, _, h => h
  | _ :: _, _, _, f, ⟨v, r, f1, f2, e, e2, h, t⟩ => ⟨v, r, f1, f2, e, e2, RO.frame g (fun p hp => f p (by rw [e2]; exact List.mem_append_left _ hp)) h, ROs.frame g (fun p hp => f p (by rw [e2]; exact List.mem_append_right _ hp)) t⟩
end
mutual
/-- what is owned becomes frozen -/
theorem RO.fz (g : Same G G') : ∀ {t : OT} {v : V} {fp : List Addr}, (∀ p ∈ fp, G' p = H p) → RO K mg G H t v fp → R K mg G' (FL.fz t) v
  | .d _, _, _, _, ⟨e, h⟩ => h.mono g
  | .lst _, _, fp, f, ⟨a, vs, fs, e, e2, l, h, r⟩ => ⟨a, vs, e, by rw [fzs_len]; exact l, by rw [f a (by rw [e2]; exact List.mem_cons_self)]; exact h, ROs.fzs g (fun p hp => f p (by rw [e2]; exact List.mem_cons_of_mem _ hp)) r⟩
  | .tup _, _, fp, f, ⟨a, vs, fs, e, e2, l, h, r⟩ => ⟨a, vs, e, by rw [fzs_len]; exact l, by rw [f a (by rw [e2]; exact List.mem_cons_self)]; exact h, ROs.fzs g (fun p hp => f p (by rw [e2]; exact List.mem_cons_of_mem _ hp)) r⟩
  | .dK _ _, _, fp, f, ⟨a, vs, fs, e, e2, l, h, r⟩ => ⟨a, vs, e, by rw [fzs_len]; exact l, .inl (by rw [f a (by rw [e2]; exact List.mem_cons_self)]; exact h), ROs.fzs g (fun p hp => f p (by rw [e2]; exact List.mem_cons_of_mem _ hp)) r⟩
  | .dT _ _, _, fp, f, ⟨a, vs, fs, e, e2, l, h, r⟩ => ⟨a, vs, e, by rw [fzs_len]; exact l, .inl (by rw [f a (by rw [e2]; exact List.mem_cons_self)]; exact h), ROs.fzs g (fun p hp => f p (by rw [e2]; exact List.mem_cons_of_mem _ hp)) r⟩
  | .ins _ _ _, _, fp, f, ⟨a, ca, dx, vs, fs, e, c, e2, l, h, r⟩ => ⟨a, ca, dx, vs, e, c, by rw [fzs_len]; exact l, by rw [f a (by rw [e2]; exact List.mem_cons_self)]; exact h, ROs.fzs g (fun p hp => f p (by rw [e2]; exact List.mem_cons_of_mem _ hp)) r⟩
theorem ROs.fzs (g : Same G G') : ∀ {ts : List OT} {vs : List V} {fp : List Addr}, (∀ p ∈ fp, G' p = H p) → ROs K mg G H ts vs fp → Rs K mg G' (FL.fzs ts) vs
  | [], _, _, _, h => h.1
  | _ :: _, _, _, f, ⟨v, r, f1, f2, e, e2, h, t⟩ => ⟨v, r, e, RO.fz g (fun p hp => f p (by rw [e2]; exact List.mem_append_left _ hp)) h, ROs.fzs g (fun p hp => f p (by rw [e2]; exact List.mem_append_right _ hp)) t⟩
end
mutual
theorem RO.live : ∀ {t : OT} {v : V} {fp : List Addr}, RO K mg G H t v fp → ∀ p ∈ fp, H p ≠ none
  | .d _, _, _, ⟨e, h⟩, p, hp => by rw [e] at hp; exact absurd hp (by simp)
  | .lst _, _, fp, ⟨a, vs, fs, e, e2, l, h, r⟩, p, hp => by
    rw [e2] at hp
    rcases List.mem_cons.mp hp with rfl | hp
    · rw [h]; exact fun z => nomatch z
    · exact ROs.live r p hp
  | .tup _, _, fp, ⟨a, vs, fs, e, e2, l, h, r⟩, p, hp => by
    rw [e2] at hp
    rcases List.mem_cons.mp hp with rfl | hp
    · rw [h]; exact fun z => nomatch z
    · exact ROs.live r p hp
  | .dK _ _, _, fp, ⟨a, vs, fs, e, e2, l, h, r⟩, p, hp => by
    rw [e2] at hp
    rcases List.mem_cons.mp hp with rfl | hp
    · rw [h]; exact fun z => nomatch z
    · exact ROs.live r p hp
  | .dT _ _, _, fp, ⟨a, vs, fs, e, e2, l, h, r⟩, p, hp => by
    rw [e2] at hp
    rcases List.mem_cons.mp hp with rfl | hp
    · rw [h]; exact fun z => nomatch z
    · exact ROs.live r p hp
  | .ins _ _ _, _, fp, ⟨a, ca, dx, vs, fs, e, c, e2, l, h, r⟩, p, hp => by
    rw [e2] at hp
    rcases List.mem_cons.mp hp with rfl | hp
    · rw [h]; exact fun z => nomatch z
    · exact ROs.live r p hp
theorem ROs.live : ∀ {ts : List OT} {vs : List V} {fp : List Addr}, ROs K mg G H ts vs fp → ∀ p ∈ fp, H p ≠ none
  | [], _, _, h, p, hp => by rw [h.2] at hp; exact absurd hp (by simp)
  | _ :: _, _, _, ⟨v, r, f1, f2, e, e2, h, t⟩, p, hp => by
    rw [e2] at hp
    rcases List.mem_append.mp hp with hp | hp
    · exact RO.live h p hp
    · exact ROs.live t p hp
end
theorem ROs.len : ∀ {ts : List OT} {vs : List V} {fp : List Addr}, ROs K mg G H ts vs fp → vs.length = ts.length
  | [], _, _, h => by rw [h.1]; rfl
  | _ :: _, _, _, ⟨v, r, f1, f2, e, e2, h, t⟩ => by rw [e, List.length_cons, List.length_cons, ROs.len t]
end
mutual
/-- data that nothing can change: no list, no dict in it -/
def imm : D → Bool
  | .non => true
  | .bl _ => true
  | .int _ => true
  | .str _ => true
  | .tup xs => imms xs
  | _ => false
def imms : List D → Bool
  | [] => true
  | d :: ds => imm d && imms ds
end
mutual
/-- an owned tree with such leaves -/
def immT : OT → Bool
  | .d x => imm x
  | .lst ts => immTs ts
  | .tup ts => immTs ts
  | .dK _ ts => immTs ts
  | .dT _ ts => immTs ts
  | .ins _ _ ts => immTs ts
def immTs : List OT → Bool
  | [] => true
  | t :: ts => immT t && immTs ts
end
mutual
/-- no tuple is among what is owned -/
def noT : OT → Bool
  | .d _ => true
  | .lst ts => noTs ts
  | .tup _ => false
  | .dK _ ts => noTs ts
  | .dT _ ts => noTs ts
  | .ins _ _ ts => noTs ts
def noTs : List OT → Bool
  | [] => true
  | t :: ts => noT t && noTs ts
end
section
variable {K : PySem.W.Frag} {mg : Str → Option Value} {G G' H : Hp}
mutual
theorem R.imm (g : ∀ a vs, G a = some (.tup vs) → G' a = some (.tup vs)) : ∀ {d : D} {v : V}, imm d = true → R K mg G d v → R K mg G' d v
  | .non, _, _, h => h
  | .bl _, _, _, h => h
  | .int _, _, _, h => h
  | .str _, _, _, h => h
  | .tup xs, _, f, ⟨a, vs, e, l, h, r⟩ => ⟨a, vs, e, l, g _ _ h, Rs.imm g (by simpa [FL.imm] using f) r⟩
  | .lst _, _, f, _ => by simp [FL.imm] at f
  | .dK _ _, _, f, _ => by simp [FL.imm] at f
  | .dT _ _, _, f, _ => by simp [FL.imm] at f
  | .ins _ _ _, _, f, _ => by simp [FL.imm] at f
  | .scr _, _, f, _ => by simp [FL.imm] at f
  | .exn _, _, f, _ => by simp [FL.imm] at f
theorem Rs.imm (g : ∀ a vs, G a = some (.tup vs) → G' a = some (.tup vs)) : ∀ {ds : List D} {vs : List V}, imms ds = true → Rs K mg G ds vs → Rs K mg G' ds vs
  | [], _, _, h => h
  | _ :: _, _, f, ⟨v, r, e, h, t⟩ => by
    simp only [imms, Bool.and_eq_true] at f
    exact ⟨v, r, e, R.imm g f.1 h, Rs.imm g f.2 t⟩
end
mutual
theorem RO.imm (g : ∀ a vs, G a = some (.tup vs) → G' a = some (.tup vs)) : ∀ {t : OT} {v : V} {fp : List Addr}, immT t = true → RO K mg G H t v fp → RO K mg G' H t v fp
  | .d x, _, _, f, ⟨e, h⟩ => ⟨e, R.imm g (by simpa [immT] using f) h⟩
  | .lst ts, _, _, f, ⟨a, vs, fs, e, e2, l, h, r⟩ => ⟨a, vs, fs, e, e2, l, h, ROs.imm g (by simpa [immT] using f) r⟩
  | .tup ts, _, _, f, ⟨a, vs, fs, e, e2, l, h, r⟩ => ⟨a, vs, fs, e, e2, l, h, ROs.imm g (by simpa [immT] using f) r⟩
  | .dK _ ts, _, _, f, ⟨a, vs, fs, e, e2, l, h, r⟩ => ⟨a, vs, fs, e, e2, l, h, ROs.imm g (by simpa [immT] using f) r⟩
  | .dT _ ts, _, _, f, ⟨a, vs, fs, e, e2, l, h, r⟩ => ⟨a, vs, fs, e, e2, l, h, ROs.imm g (by simpa [immT] using f) r⟩
  | .ins _ _ ts, _, _, f, ⟨a, ca, dx, vs, fs, e, c, e2, l, h, r⟩ => ⟨a, ca, dx, vs, fs, e, c, e2, l, h, ROs.imm g (by simpa [immT] using f) r⟩
theorem ROs.imm (g : ∀ a vs, G a = some (.tup vs) → G' a = some (.tup vs)) : ∀ {ts : List OT} {vs : List V} {fp : List Addr}, immTs ts = true → ROs K mg G H ts vs fp → ROs K mg G' H ts vs fp
  | [], _, _, _, h => h
  | t :: ts, _, _, f, ⟨v, r, f1, f2, e, e2, h, q⟩ => by
    simp only [immTs, Bool.and_eq_true] at f
    exact ⟨v, r, f1, f2, e, e2, RO.imm g f.1 h, ROs.imm g f.2 q⟩
end
mutual
theorem RO.noT : ∀ {t : OT} {v : V} {fp : List Addr}, noT t = true → RO K mg G H t v fp → ∀ p ∈ fp, ∀ vs, H p ≠ some (.tup vs)
  | .d x, _, _, _, ⟨e, _⟩, p, hp, _ => by rw [e] at hp; exact absurd hp (by simp)
  | .lst ts, _, _, f, ⟨a, vs, fs, e, e2, l, h, r⟩, p, hp, us => by
    rw [e2] at hp
    rcases List.mem_cons.mp hp with rfl | hp
    · rw [h]; exact fun z => nomatch z
    · exact ROs.noT (by simpa [FL.noT] using f) r p hp us
  | .tup ts, _, _, f, _, _, _, _ => by simp [FL.noT] at f
  | .dK _ ts, _, _, f, ⟨a, vs, fs, e, e2, l, h, r⟩, p, hp, us => by
    rw [e2] at hp
    rcases List.mem_cons.mp hp with rfl | hp
    · rw [h]; exact fun z => nomatch z
    · exact ROs.noT (by simpa [FL.noT] using f) r p hp us
  | .dT _ ts, _, _, f, ⟨a, vs, fs, e, e2, l, h, r⟩, p, hp, us => by
    rw [e2] at hp
    rcases List.mem_cons.mp hp with rfl | hp
    · rw [h]; exact fun z => nomatch z
    · exact ROs.noT (by simpa [FL.noT] using f) r p hp us
  | .ins _ _ ts, _, _, f, ⟨a, ca, dx, vs, fs, e, c, e2, l, h, r⟩, p, hp, us => by
    rw [e2] at hp
    rcases List.mem_cons.mp hp with rfl | hp
    · rw [h]; exact fun z => nomatch z
    · exact ROs.noT (by simpa [FL.noT] using f) r p hp us
theorem ROs.noT : ∀ {ts : List OT} {vs : List V} {fp : List Addr}, noTs ts = true → ROs K mg G H ts vs fp → ∀ p ∈ fp, ∀ vs, H p ≠ some (.tup vs)
  | [], _, _, _, h, p, hp, _ => by rw [h.2] at hp; exact absurd hp (by simp)
  | _ :: _, _, _, f, ⟨v, r, f1, f2, e, e2, h, t⟩, p, hp, us => by
    simp only [noTs, Bool.and_eq_true] at f
    rw [e2] at hp
    rcases List.mem_append.mp hp with hp | hp
    · exact RO.noT f.1 h p hp us
    · exact ROs.noT f.2 t p hp us
end
end
end FL
/-! The functional layer, part B: what holds between two states, environments, readings. -/
namespace FL
open PySem PySem.Spec PyProof.Rows L2
abbrev En := List (Option OT)
/-- from G, H on objects are laid, some of them frozen, none that stood is changed -/
structure Stp (G H G' H' : Hp) : Prop where
  hh : Same H H'
  gg : Same G G'
  gh : Same G' H'
  old : ∀ p, H p ≠ none → G' p = G p
section
variable {G H G1 H1 G2 H2 : Hp}
theorem Stp.refl (g : Same G H) : Stp G H G H := ⟨Same.refl _, Same.refl _, g, fun _ _ => rfl⟩
theorem live_of {p : Addr} (h : Same H H1) (l : H p ≠ none) : H1 p ≠ none := by
  cases e : H p with
  | none => exact absurd e l
  | some o => rw [h p o e]; exact fun z => nomatch z
theorem Stp.trans (a : Stp G H G1 H1) (b : Stp G1 H1 G2 H2) : Stp G H G2 H2 :=
  ⟨a.hh.trans b.hh, a.gg.trans b.gg, b.gh, fun p h => (b.old p (live_of a.hh h)).trans (a.old p h)⟩
/-- a new object that is frozen at once -/
theorem same_new {p : Addr} {o : HO} (h : H p = none) : Same H (upd H p o) := fun b x e => by
  rw [upd_ne (ne_of_none e h)]; exact e
theorem Stp.new {p : Addr} {o : HO} (g : Same G H) (h : H p = none) : Stp G H (upd G p o) (upd H p o) := by
  have gn : G p = none := g.free h
  refine ⟨same_new h, same_new gn, fun b x e => ?_, fun b l => ?_⟩
  · by_cases hb : b = p
    · subst hb; rw [upd_same] at e ⊢; exact e
    · rw [upd_ne hb] at e ⊢; exact g b x e
  · rw [upd_ne (fun z => l (by rw [z]; exact h))]
/-- a new object that is owned -/
theorem Stp.own {p : Addr} {o : HO} (g : Same G H) (h : H p = none) : Stp G H G (upd H p o) :=
  ⟨same_new h, Same.refl _, g.trans (same_new h), fun _ _ => rfl⟩
end
/-- what a def's body was handed: the heap that must stay, its frozen part, the slots whose values stay -/
structure Bs where
  O : Hp
  G0 : Hp
  io : List (Nat × V)
section
variable (K : PySem.W.Frag) (mg : Str → Option Value)
structure Slots (B : Bs) (G H : Hp) (σ : L2.St) (ρ : En) (F : Nat → List Addr) : Prop where
  rep : ∀ i t, ρ[i]? = some (some t) → ∃ v, σ[i]? = some (some v) ∧ RO K mg G H t v (F i)
  nd : ∀ i, (F i).Nodup
  at_ : ∀ i p, p ∈ F i → H p ≠ none ∧ G p = none ∧ B.O p = none
  dj : ∀ i j p, i ≠ j → p ∈ F i → p ∉ F j
structure Gr (B : Bs) (G H : Hp) (σ : L2.St) : Prop where
  gh : Same G H
  oh : Same B.O H
  g0 : Same B.G0 G
  og : ∀ p, B.O p ≠ none → G p = B.G0 p
  io : ∀ q ∈ B.io, σ[q.1]? = some (some q.2)
structure Rep (B : Bs) (G H : Hp) (σ : L2.St) (ρ : En) : Prop where
  g : Gr B G H σ
  len : ρ.length = σ.length
  sl : ∃ F, Slots K mg B G H σ ρ F
/-- .. and a value that is the environment's own -/
structure RepV (B : Bs) (G H : Hp) (σ : L2.St) (ρ : En) (t : OT) (v : V) : Prop where
  g : Gr B G H σ
  len : ρ.length = σ.length
  sl : ∃ F fv, Slots K mg B G H σ ρ F ∧ RO K mg G H t v fv ∧ fv.Nodup ∧ (∀ p ∈ fv, H p ≠ none ∧ G p = none ∧ B.O p = none) ∧ ∀ i p, p ∈ fv → p ∉ F i
/-- an exception's class and its own dict -/
def RX (G H : Hp) (x : Exn) (cls : Value) (dd : Option Addr) : Prop :=
  mg x.c = some cls ∧ match x.p with
    | none => dd = none
    | some d => ∃ a v, dd = some a ∧ H a = some (.xd [(("paths" : Str), v)]) ∧ R K mg G d v
end
section
variable {K : PySem.W.Frag} {mg : Str → Option Value} {B : Bs} {G H G' H' : Hp} {σ : L2.St} {ρ : En}
theorem Gr.step (r : Gr B G H σ) (s : Stp G H G' H') : Gr B G' H' σ :=
  ⟨s.gh, r.oh.trans s.hh, r.g0.trans s.gg, fun p h => (s.old p (live_of r.oh h)).trans (r.og p h), r.io⟩
theorem same_at {p : Addr} (h : Same H H') (l : H p ≠ none) : H' p = H p := by
  cases e : H p with
  | none => exact absurd e l
  | some o => exact h p o e
theorem Slots.step {F : Nat → List Addr} (r : Slots K mg B G H σ ρ F) (s : Stp G H G' H') : Slots K mg B G' H' σ ρ F :=
  ⟨fun i t e => by
    obtain ⟨v, a, b⟩ := r.rep i t e
    exact ⟨v, a, b.frame s.gg fun p hp => same_at s.hh (r.at_ i p hp).1⟩, r.nd, fun i p hp => by
    obtain ⟨a, b, c⟩ := r.at_ i p hp
    exact ⟨live_of s.hh a, (s.old p a).trans b, c⟩, r.dj⟩
theorem Rep.step (r : Rep K mg B G H σ ρ) (s : Stp G H G' H') : Rep K mg B G' H' σ ρ := by
  obtain ⟨F, f⟩ := r.sl
  exact ⟨r.g.step s, r.len, F, f.step s⟩
theorem Rep.gh (r : Rep K mg B G H σ ρ) : Same G H := r.g.gh
theorem Rep.slot {i : Nat} {t : OT} (r : Rep K mg B G H σ ρ) (e : ρ[i]? = some (some t)) : ∃ v fp, σ[i]? = some (some v) ∧ RO K mg G H t v fp := by
  obtain ⟨F, f⟩ := r.sl
  obtain ⟨v, a, b⟩ := f.rep i t e
  exact ⟨v, F i, a, b⟩
theorem Rep.frozen {i : Nat} {d : D} (r : Rep K mg B G H σ ρ) (e : ρ[i]? = some (some (.d d))) : ∃ v, σ[i]? = some (some v) ∧ R K mg G d v := by
  obtain ⟨v, fp, a, b, c⟩ := r.slot e
  exact ⟨v, a, c⟩
/-- a fresh value -/
theorem Rep.fresh {t : OT} {v : V} {fp : List Addr} (r : Rep K mg B G H σ ρ) (s : Stp G H G' H') (h : RO K mg G' H' t v fp) (nd : fp.Nodup) (fr : ∀ p ∈ fp, H p = none ∧ G' p = none) : RepV K mg B G' H' σ ρ t v := by
  obtain ⟨F, f⟩ := r.sl
  refine ⟨r.g.step s, r.len, F, fp, f.step s, h, nd, fun p hp => ⟨h.live p hp, (fr p hp).2, r.g.oh.free (fr p hp).1⟩, fun i p hp hi => (f.at_ i p hi).1 (fr p hp).1⟩
theorem Rep.val {d : D} {v : V} (r : Rep K mg B G H σ ρ) (h : R K mg G d v) : RepV K mg B G H σ ρ (.d d) v :=
  r.fresh (Stp.refl r.gh) (t := .d d) (fp := []) ⟨rfl, h⟩ List.nodup_nil (fun p hp => absurd hp (by simp))
theorem RepV.rep {t : OT} {v : V} (r : RepV K mg B G H σ ρ t v) : Rep K mg B G H σ ρ := by
  obtain ⟨F, fv, f, _⟩ := r.sl
  exact ⟨r.g, r.len, F, f⟩
theorem get_set {α : Type} {l : List α} {i j : Nat} {x y : α} (h : (l.set i x)[j]? = some y) : (i = j ∧ i < l.length ∧ x = y) ∨ (i ≠ j ∧ l[j]? = some y) := by
  by_cases e : i = j
  · subst e
    by_cases hl : i < l.length
    · rw [List.getElem?_set_self hl] at h
      exact .inl ⟨rfl, hl, Option.some.inj h⟩
    · rw [List.getElem?_eq_none (by simpa using hl)] at h; cases h
  · rw [List.getElem?_set_ne e] at h
    exact .inr ⟨e, h⟩
/-- it is stored in a slot -/
theorem RepV.set {t : OT} {v : V} {i : Nat} (r : RepV K mg B G H σ ρ t v) (hi : ∀ q ∈ B.io, q.1 ≠ i) : Rep K mg B G H (σ.set i (some v)) (ρ.set i (some t)) := by
  obtain ⟨F, fv, f, h, nd, at_, dj⟩ := r.sl
  refine ⟨⟨r.g.gh, r.g.oh, r.g.g0, r.g.og, fun q hq => ?_⟩, by rw [List.length_set, List.length_set]; exact r.len, fun j => if j = i then fv else F j, fun j u e => ?_, fun j => ?_, fun j p hp => ?_, fun j k p ne hp hk => ?_⟩
  · rw [List.getElem?_set_ne (fun z => hi q hq z.symm)]; exact r.g.io q hq
  · rcases get_set e with ⟨e1, hl, e2⟩ | ⟨ne, e⟩
    · subst e1; cases e2
      refine ⟨v, by rw [List.getElem?_set_self (by rw [← r.len]; exact hl)], ?_⟩
      rw [if_pos rfl]; exact h
    · obtain ⟨w, a, b⟩ := f.rep j u e
      refine ⟨w, by rw [List.getElem?_set_ne ne]; exact a, ?_⟩
      rw [if_neg (fun z => ne z.symm)]; exact b
  · (try dsimp only); split
    · exact nd
    · exact f.nd j
  · (try dsimp only at hp); split at hp
    · exact at_ p hp
    · exact f.at_ j p hp
  · (try dsimp only at hp hk)
    by_cases h1 : j = i
    · by_cases h2 : k = i
      · exact ne (h1.trans h2.symm)
      · rw [if_pos h1] at hp; rw [if_neg h2] at hk
        exact dj k p hp hk
    · rw [if_neg h1] at hp
      by_cases h2 : k = i
      · rw [if_pos h2] at hk
        exact dj j p hk hp
      · rw [if_neg h2] at hk
        exact f.dj j k p ne hp hk
/-- a slot is forgotten -/
theorem Slots.forget {F : Nat → List Addr} (f : Slots K mg B G H σ ρ F) (i : Nat) : Slots K mg B G H σ (ρ.set i none) F :=
  ⟨fun j u e => by
    rcases get_set e with ⟨_, _, e2⟩ | ⟨ne, e⟩
    · cases e2
    · exact f.rep j u e, f.nd, f.at_, f.dj⟩
theorem Rep.forget (r : Rep K mg B G H σ ρ) (i : Nat) : Rep K mg B G H σ (ρ.set i none) := by
  obtain ⟨F, f⟩ := r.sl
  exact ⟨r.g, by rw [List.length_set]; exact r.len, F, f.forget i⟩
/-- the value of a slot is taken out -/
theorem Rep.move {i : Nat} {t : OT} (r : Rep K mg B G H σ ρ) (e : ρ[i]? = some (some t)) : ∃ v, σ[i]? = some (some v) ∧ RepV K mg B G H σ (ρ.set i none) t v := by
  obtain ⟨F, f⟩ := r.sl
  obtain ⟨v, a, b⟩ := f.rep i t e
  refine ⟨v, a, r.g, by rw [List.length_set]; exact r.len, fun j => if j = i then [] else F j, F i, ⟨fun j u e => ?_, fun j => ?_, fun j p hp => ?_, fun j k p ne hp hk => ?_⟩, b, f.nd i, f.at_ i, fun j p hp hj => ?_⟩
  · rcases get_set e with ⟨_, _, e2⟩ | ⟨ne, e⟩
    · cases e2
    · rw [if_neg (fun z => ne z.symm)]; exact f.rep j u e
  · (try dsimp only); split
    · exact List.nodup_nil
    · exact f.nd j
  · (try dsimp only at hp); split at hp
    · exact absurd hp (by simp)
    · exact f.at_ j p hp
  · (try dsimp only at hp hk)
    split at hp
    · exact absurd hp (by simp)
    · split at hk
      · exact absurd hk (by simp)
      · exact f.dj j k p ne hp hk
  · (try dsimp only at hj); split at hj
    · exact absurd hj (by simp)
    · rename_i ne; exact f.dj i j p (fun z => ne z.symm) hp hj
/-- all that is owned is frozen -/
def frz (ρ : En) : En := ρ.map (Option.map fun t => .d (fz t))
/-- .. a slot -/
def frzAt (i : Nat) (ρ : En) : En := match ρ[i]? with
  | some (some t) => ρ.set i (some (.d (fz t)))
  | _ => ρ
theorem Rep.fzAt (r : Rep K mg B G H σ ρ) (i : Nat) : ∃ G', Rep K mg B G' H σ (frzAt i ρ) := by
  unfold frzAt
  split
  · rename_i t e
    obtain ⟨F, f⟩ := r.sl
    obtain ⟨v, a, b⟩ := f.rep i t e
    have g1 : Same G (fun p => if p ∈ F i then H p else G p) := fun p o h => by
      (try dsimp only); split
      · exact r.g.gh p o h
      · exact h
    refine ⟨fun p => if p ∈ F i then H p else G p, ⟨fun p o h => ?_, r.g.oh, r.g.g0.trans g1, fun p h => ?_, r.g.io⟩, by rw [List.length_set]; exact r.len, fun j => if j = i then [] else F j, fun j u e => ?_, fun j => ?_, fun j p hp => ?_, fun j k p ne hp hk => ?_⟩
    · (try dsimp only at h); split at h
      · exact h
      · exact r.g.gh p o h
    · (try dsimp only); split
      · rename_i hp; exact absurd (f.at_ i p hp).2.2 h
      · exact r.g.og p h
    · rcases get_set e with ⟨e1, hl, e2⟩ | ⟨ne, e⟩
      · subst e1; cases e2
        refine ⟨v, a, ?_⟩
        rw [if_pos rfl]
        exact ⟨rfl, b.fz g1 fun p hp => if_pos hp⟩
      · obtain ⟨w, a, b⟩ := f.rep j u e
        rw [if_neg (fun z => ne z.symm)]
        exact ⟨w, a, b.frame g1 fun p _ => rfl⟩
    · (try dsimp only); split
      · exact List.nodup_nil
      · exact f.nd j
    · (try dsimp only at hp); split at hp
      · exact absurd hp (by simp)
      · rename_i ne
        refine ⟨(f.at_ j p hp).1, ?_, (f.at_ j p hp).2.2⟩
        (try dsimp only); rw [if_neg (f.dj j i p ne hp)]; exact (f.at_ j p hp).2.1
    · (try dsimp only at hp hk)
      split at hp
      · exact absurd hp (by simp)
      · split at hk
        · exact absurd hk (by simp)
        · exact f.dj j k p ne hp hk
  · exact ⟨G, r⟩
/-- no slot has a tuple among what it owns -/
def noE (ρ : En) : Bool := ρ.all fun o => match o with
  | some t => noT t
  | none => true
theorem noE_at {ρ : En} {i : Nat} {t : OT} (h : noE ρ = true) (e : ρ[i]? = some (some t)) : noT t = true :=
  List.all_eq_true.mp h (some t) (List.mem_of_getElem? e)
open Classical in
theorem Rep.fzAll' (r : Rep K mg B G H σ ρ) : ∃ G', Same G G' ∧ (∀ p, H p = none → G' p = none) ∧ (noE ρ = true → ∀ a vs, G' a = some (.tup vs) → G a = some (.tup vs)) ∧ Rep K mg B G' H σ (frz ρ) := by
  obtain ⟨F0, f0⟩ := r.sl
  -- of empty slots nothing is kept
  let F : Nat → List Addr := fun i => if ∃ t, ρ[i]? = some (some t) then F0 i else []
  have f : Slots K mg B G H σ ρ F := by
    refine ⟨fun i t e => ?_, fun i => ?_, fun i p hp => ?_, fun i j p ne hp hq => ?_⟩
    · obtain ⟨v, a, b⟩ := f0.rep i t e
      exact ⟨v, a, by show RO K mg G H t v (if _ then _ else _); rw [if_pos ⟨t, e⟩]; exact b⟩
    · show (if _ then _ else _ : List Addr).Nodup
      split
      · exact f0.nd i
      · exact List.nodup_nil
    · change p ∈ (if _ then _ else _ : List Addr) at hp
      split at hp
      · exact f0.at_ i p hp
      · cases hp
    · change p ∈ (if _ then _ else _ : List Addr) at hp
      change p ∈ (if _ then _ else _ : List Addr) at hq
      split at hp
      · split at hq
        · exact f0.dj i j p ne hp hq
        · cases hq
      · cases hp
  have g1 : Same G (fun p => if ∃ i, p ∈ F i then H p else G p) := fun p o h => by
    (try dsimp only); split
    · exact r.g.gh p o h
    · exact h
  refine ⟨fun p => if ∃ i, p ∈ F i then H p else G p, g1, fun p h => ?_, fun hn a vs h => ?_, ⟨fun p o h => ?_, r.g.oh, r.g.g0.trans g1, fun p h => ?_, r.g.io⟩, by rw [frz, List.length_map]; exact r.len, fun _ => [], fun j u e => ?_, fun _ => List.nodup_nil, fun j p hp => absurd hp (by simp), fun j k p _ hp => absurd hp (by simp)⟩
  · (try dsimp only); split
    · exact h
    · exact r.g.gh.free h
  · (try dsimp only at h); split at h
    · rename_i hp
      obtain ⟨i, hp⟩ := hp
      have hp0 := hp
      change a ∈ (if _ then _ else _ : List Addr) at hp
      split at hp
      · rename_i ht
        obtain ⟨t, ht⟩ := ht
        obtain ⟨v, _, b⟩ := f.rep i t ht
        exact absurd h (RO.noT (noE_at hn ht) b a hp0 vs)
      · cases hp
    · exact h
  · (try dsimp only at h); split at h
    · exact h
    · exact r.g.gh p o h
  · (try dsimp only); split
    · rename_i hp; obtain ⟨i, hp⟩ := hp; exact absurd (f.at_ i p hp).2.2 h
    · exact r.g.og p h
  · rw [frz, List.getElem?_map] at e
    cases e2 : ρ[j]? with
    | none => rw [e2] at e; cases e
    | some q =>
      cases q with
      | none => rw [e2] at e; cases e
      | some t =>
        rw [e2] at e; cases e
        obtain ⟨v, a, b⟩ := f.rep j t e2
        exact ⟨v, a, rfl, b.fz g1 fun p hp => if_pos ⟨j, hp⟩⟩
theorem Rep.fzAll (r : Rep K mg B G H σ ρ) : ∃ G', Same G G' ∧ (∀ p, H p = none → G' p = none) ∧ Rep K mg B G' H σ (frz ρ) := by
  obtain ⟨G', a, b, _, c⟩ := r.fzAll'
  exact ⟨G', a, b, c⟩
end
end FL
/-! The functional layer, part C: what an expression computes. -/
namespace FL
open PySem PySem.Spec PyProof.Rows L2
/-- what is wished of an exception: whether one may come, and what of it -/
structure WW where
  on : Prop
  w : WX
section
variable (K : PySem.W.Frag) (mg : Str → Option Value)
/-- an outcome r is reached: a value b that stands for it, or an exception as W wishes -/
def Wr {α β : Type} (rel : Hp → Hp → Hp → α → β → Prop) (W : WW) (σ : L2.St) (G H : Hp) (r : Res α) (k : α → β → Hp → Hp → Prop) : Prop := match r with
  | .ok a => ∀ b G' H', Stp G H G' H' → rel H G' H' a b → k a b G' H'
  | .ex c => W.on ∧ ∀ G' H' cls dd, Stp G H G' H' → RX K mg G' H' c cls dd → W.w cls dd σ H'
  | .bad => False
def relD (_ G' _ : Hp) (d : D) (v : V) : Prop := R K mg G' d v
def relL (_ G' _ : Hp) (d : List D) (v : List V) : Prop := Rs K mg G' d v
def relO (H G' H' : Hp) (t : OT) (v : V) : Prop := ∃ fp, RO K mg G' H' t v fp ∧ fp.Nodup ∧ ∀ p ∈ fp, H p = none ∧ G' p = none
def relB (_ _ _ : Hp) (b c : Bool) : Prop := c = b
end
/-- a fresher start is as good -/
def Later {α β : Type} (rel : Hp → Hp → Hp → α → β → Prop) : Prop := ∀ H H1 G' H' a b, Same H H1 → rel H1 G' H' a b → rel H G' H' a b
section
variable {K : PySem.W.Frag} {mg : Str → Option Value} {W : WW} {σ : L2.St} {G H : Hp} {α β γ δ : Type}
theorem later_D : Later (relD K mg) := fun _ _ _ _ _ _ _ h => h
theorem later_L : Later (relL K mg) := fun _ _ _ _ _ _ _ h => h
theorem later_B : Later relB := fun _ _ _ _ _ _ _ h => h
theorem later_O : Later (relO K mg) := fun _ _ _ _ _ _ s ⟨fp, a, b, c⟩ => ⟨fp, a, b, fun p hp => ⟨s.free (c p hp).1, (c p hp).2⟩⟩
theorem Wr.mono {rel : Hp → Hp → Hp → α → β → Prop} {r : Res α} {k k' : α → β → Hp → Hp → Prop} (h : Wr K mg rel W σ G H r k) (hk : ∀ a b G' H', k a b G' H' → k' a b G' H') : Wr K mg rel W σ G H r k' := by
  cases r with
  | ok a => exact fun b G' H' s q => hk _ _ _ _ (h b G' H' s q)
  | ex c => exact h
  | bad => exact h
theorem Wr.bind {rel : Hp → Hp → Hp → α → β → Prop} {rel2 : Hp → Hp → Hp → γ → δ → Prop} {r : Res α} {g : α → Res γ} {k : γ → δ → Hp → Hp → Prop} (lt : Later rel2) (h : Wr K mg rel2 W σ G H (r.bind g) k) :
    Wr K mg rel W σ G H r fun a b G1 H1 => Stp G H G1 H1 ∧ rel H G1 H1 a b ∧ Wr K mg rel2 W σ G1 H1 (g a) k := by
  cases r with
  | ok a =>
    refine fun b G1 H1 s q => ⟨s, q, ?_⟩
    change Wr K mg rel2 W σ G H (g a) k at h
    cases e : g a with
    | ok c => rw [e] at h; exact fun d G2 H2 s2 q2 => h d G2 H2 (s.trans s2) (lt _ _ _ _ _ _ s.hh q2)
    | ex c => rw [e] at h; exact ⟨h.1, fun G2 H2 cls dd s2 q2 => h.2 G2 H2 cls dd (s.trans s2) q2⟩
    | bad => rw [e] at h; exact h
  | ex c => exact h
  | bad => exact h
theorem Wr.ok {rel : Hp → Hp → Hp → α → β → Prop} {a : α} {k : α → β → Hp → Hp → Prop} {b : β} {G' H' : Hp} (h : Wr K mg rel W σ G H (.ok a) k) (s : Stp G H G' H') (r : rel H G' H' a b) : k a b G' H' := h b G' H' s r
end
/-! ### the judgements -/
section
variable (X : Cx) (W : WW)
/-- the reading of a computation -/
def lift {α β : Type} (rel : Hp → Hp → Hp → α → β → Prop) (B : Bs) (f : En → Res α) : L2.St → Hp → (β → Hp → Prop) → Prop := fun σ H Q => ∃ G ρ, Rep X.K X.mg B G H σ ρ ∧ Wr X.K X.mg rel W σ G H (f ρ) fun _ v _ H' => Q v H'
/-- the expression computes a datum; it changes nothing -/
structure EF (e : Expr) (f : En → Res D) : Prop where
  run : ∀ B, PE X e (lift X W (relD X.K X.mg) B f)
/-- .. a fresh tree -/
structure EO (e : Expr) (f : En → Res OT) : Prop where
  run : ∀ B, PE X e (lift X W (relO X.K X.mg) B f)
/-- .. a truth -/
structure ET (e : Expr) (f : En → Res Bool) : Prop where
  run : ∀ B, PT X e (lift X W relB B f)
structure EW (e : Expr) (f : En → Res Bool) : Prop where
  run : ∀ B, PW X e (lift X W relB B f)
structure EC (op : CmpOp) (a b : Expr) (f : En → Res D) : Prop where
  run : ∀ B, PC X op a b (lift X W (relD X.K X.mg) B f)
structure EA (es : List Expr) (f : En → Res (List D)) : Prop where
  run : ∀ B, PA X es (lift X W (relL X.K X.mg) B f)
end
theorem PE.mono {X : Cx} {e : Expr} {t t' : TE} (h : PE X e t) (i : ∀ σ H Q, t' σ H Q → t σ H Q) : PE X e t' := ⟨fun pins s σ H Q I q => h.run pins s σ H Q I (i _ _ _ q)⟩
theorem PT.mono {X : Cx} {e : Expr} {t t' : TT} (h : PT X e t) (i : ∀ σ H Q, t' σ H Q → t σ H Q) : PT X e t' := ⟨fun pins s σ H Q I q => h.run pins s σ H Q I (i _ _ _ q)⟩
theorem PW.mono {X : Cx} {e : Expr} {t t' : TT} (h : PW X e t) (i : ∀ σ H Q, t' σ H Q → t σ H Q) : PW X e t' := ⟨fun w pins s σ H Q I q => h.run w pins s σ H Q I (i _ _ _ q)⟩
theorem PC.mono {X : Cx} {op : CmpOp} {a b : Expr} {t t' : TE} (h : PC X op a b t) (i : ∀ σ H Q, t' σ H Q → t σ H Q) : PC X op a b t' := ⟨fun pins s σ H Q I q => h.run pins s σ H Q I (i _ _ _ q)⟩
theorem PA.mono {X : Cx} {es : List Expr} {t t' : TA} (h : PA X es t) (i : ∀ σ H Q, t' σ H Q → t σ H Q) : PA X es t' := ⟨fun p pins s σ H Q I q => h.run p pins s σ H Q I (i _ _ _ q)⟩
theorem PS.mono {X : Cx} {st : Stmt} {t t' : TS} (h : PS X st t) (i : ∀ D σ H, t' D σ H → t D σ H) : PS X st t' := ⟨fun pins s σ H D I q => h.run pins s σ H D I (i _ _ _ q)⟩
theorem PSs.mono {X : Cx} {st : List Stmt} {t t' : TS} (h : PSs X st t) (i : ∀ D σ H, t' D σ H → t D σ H) : PSs X st t' := ⟨fun pins s σ H D I q => h.run pins s σ H D I (i _ _ _ q)⟩
/-- the next part of a computation -/
theorem lift.next {X : Cx} {W : WW} {α β γ δ : Type} {rel : Hp → Hp → Hp → α → β → Prop} {rel2 : Hp → Hp → Hp → γ → δ → Prop} {B : Bs} {f : En → Res α} {g : α → En → Res γ} {G H : Hp} {σ : L2.St} {ρ : En} {Q : δ → Hp → Prop} (lt : Later rel2)
    (r : Rep X.K X.mg B G H σ ρ) (h : Wr X.K X.mg rel2 W σ G H ((f ρ).bind fun a => g a ρ) fun _ v _ H' => Q v H') {R : β → Hp → Prop}
    (k : ∀ a b G1 H1, Rep X.K X.mg B G1 H1 σ ρ → Stp G H G1 H1 → rel H G1 H1 a b → Wr X.K X.mg rel2 W σ G1 H1 (g a ρ) (fun _ v _ H' => Q v H') → R b H1) : lift X W rel B f σ H R :=
  ⟨G, ρ, r, (Wr.bind lt h).mono fun a b G1 H1 ⟨s, q, w⟩ => k a b G1 H1 (r.step s) s q w⟩
section
variable {X : Cx} {W : WW} {e a b : Expr} {es : List Expr} {f fa fb : En → Res D} {fs : En → Res (List D)} {pos : Pos}
/-! ### names, constants -/
def v (i : Nat) (ρ : En) : Res D := match ρ[i]? with
  | some (some (.d x)) => .ok x
  | _ => .bad
theorem EF.var (i : Nat) {x : Str} (hN : X.N[i]? = some x := by rfl) (hv : Vis X.env.scope x := by first | exact Or.inl rfl | exact Or.inr (Or.inl rfl) | exact Or.inr (Or.inr rfl)) (hd : (x == ("__debug__" : Str)) = false := by decide)
    (hcd : (x == ("__classdict__" : Str)) = false := by decide) : EF X W (.Name x pos) (v i) := ⟨fun B => PE.mono (pe_var hN hv hd hcd) fun σ H Q ⟨G, ρ, r, h⟩ => by
  unfold v at h
  split at h
  · rename_i d e
    obtain ⟨u, a, b⟩ := r.frozen e
    exact ⟨u, a, h.ok (Stp.refl r.gh) b⟩
  · exact h.elim⟩
def c (d : D) (_ : En) : Res D := .ok d
theorem EF.const {d : D} {x : V} (he : PE X e (tC x)) (hr : ∀ G, R X.K X.mg G d x) : EF X W e (c d) := ⟨fun B => PE.mono he fun σ H Q ⟨G, ρ, r, h⟩ => h.ok (Stp.refl r.gh) (hr G)⟩
theorem EF.int {i : Int} {j} : EF X W (.Constant (.int i) j pos) (c (.int i)) := EF.const pe_int fun _ => rfl
theorem EF.bl {b : Bool} {j} : EF X W (.Constant (.bool b) j pos) (c (.bl b)) := EF.const pe_bl fun _ => rfl
theorem EF.non {j} : EF X W (.Constant .none j pos) (c .non) := EF.const pe_non fun _ => rfl
theorem EF.str {z : Str} {j} (h : z.length ≤ sizeLine ∧ PyData.strOk z = true := by decide +kernel) : EF X W (.Constant (.str z) j pos) (c (.str z)) := EF.const pe_str fun _ => ⟨rfl, h⟩
/-- a constant of the module -/
theorem EF.globI {x : Str} {i : Int} {t : Tok} (hm : X.mg x = some (.int i t)) (hg : Gl X x := by rfl) (hd : (x == ("__debug__" : Str)) = false := by decide) : EF X W (.Name x pos) (c (.int i)) := EF.const (x := .int i) (pe_glob hg hm ⟨t, rfl⟩ hd) fun _ => rfl
theorem EF.globS {x : Str} {z : Str} {t : Tok} (hm : X.mg x = some (.str z t)) (h : z.length ≤ sizeLine ∧ PyData.strOk z = true) (hg : Gl X x := by rfl) (hd : (x == ("__debug__" : Str)) = false := by decide) : EF X W (.Name x pos) (c (.str z)) :=
  EF.const (x := .str z) (pe_glob hg hm ⟨t, rfl⟩ hd) fun _ => ⟨rfl, h⟩
/-! ### between the judgements -/
theorem RO.dd {K : PySem.W.Frag} {mg : Str → Option Value} {G H : Hp} {d : D} {v : V} (h : R K mg G d v) : RO K mg G H (.d d) v [] := by
  unfold RO
  exact ⟨rfl, h⟩
theorem EO.of_EF (h : EF X W e f) : EO X W e (fun ρ => (f ρ).map .d) := ⟨fun B => PE.mono (h.run B) fun σ H Q ⟨G, ρ, r, h⟩ => lift.next (rel := relD X.K X.mg) (g := fun a _ => .ok (.d a)) later_O r h fun a b G1 H1 r1 s q w =>
  w.ok (Stp.refl r1.gh) ⟨[], RO.dd q, List.nodup_nil, fun p hp => absurd hp (by simp)⟩⟩
theorem freeze {K : PySem.W.Frag} {mg : Str → Option Value} {G H G' H' : Hp} {t : OT} {v : V} (s : Stp G H G' H') (h : relO K mg H G' H' t v) : ∃ G2, Stp G H G2 H' ∧ R K mg G2 (fz t) v ∧ Same G' G2 := by
  obtain ⟨fp, a, b, c⟩ := h
  have g1 : Same G' (fun p => if p ∈ fp then H' p else G' p) := fun p o h => by
    (try dsimp only); split
    · exact s.gh p o h
    · exact h
  refine ⟨fun p => if p ∈ fp then H' p else G' p, ⟨s.hh, s.gg.trans g1, fun p o h => ?_, fun p h => ?_⟩, a.fz g1 fun p hp => if_pos hp, g1⟩
  · (try dsimp only at h); split at h
    · exact h
    · exact s.gh p o h
  · (try dsimp only); split
    · rename_i hp; exact absurd (c p hp).1 h
    · exact s.old p h
theorem EF.of_EO {f : En → Res OT} (h : EO X W e f) : EF X W e (fun ρ => (f ρ).map fz) := ⟨fun B => PE.mono (h.run B) fun σ H Q ⟨G, ρ, r, h⟩ => ⟨G, ρ, r, by
  change Wr X.K X.mg (relD X.K X.mg) W σ G H ((f ρ).map fz) _ at h
  cases e1 : f ρ with
  | ok t =>
    rw [e1] at h
    intro v G' H' s q
    obtain ⟨G2, s2, r2, _⟩ := freeze s q
    exact h v G2 H' s2 r2
  | ex c => rw [e1] at h; exact h
  | bad => rw [e1] at h; exact h⟩⟩
def flat : D → Bool
  | .non => true | .bl _ => true | .int _ => true | .str _ => true | _ => false
/-- all owned things are read as they stand; what comes is flat -/
def bor (f : En → Res D) (ρ : En) : Res D := match f (frz ρ) with
  | .ok d => if (flat d || (imm d && noE ρ)) = true then .ok d else .bad
  | .ex x => match x.p with
    | none => .ex x
    | some _ => .bad
  | .bad => .bad
theorem bor_tup {G G0 H G' H' : Hp} (n : ∀ a vs, G a = some (.tup vs) → G0 a = some (.tup vs)) (s : Stp G H G' H') : ∀ a vs, G' a = some (.tup vs) → (fun p => if (H p).isSome = true then G0 p else G' p) a = some (.tup vs) := fun a vs h => by
  (try dsimp only); split
  · rename_i l
    refine n a vs ?_
    rw [← s.old a (fun z => by rw [z] at l; cases l)]; exact h
  · exact h
theorem bor_stp {G G0 H G' H' : Hp} (g : Same G0 H) (hg : Same G0 G) (s : Stp G H G' H') : Stp G0 H (fun p => if (H p).isSome = true then G0 p else G' p) H' := by
  refine ⟨s.hh, fun p o h => ?_, fun p o h => ?_, fun p h => ?_⟩
  · (try dsimp only); rw [if_pos (by rw [g p o h]; rfl)]; exact h
  · (try dsimp only at h); split at h
    · exact s.hh p o (g p o h)
    · exact s.gh p o h
  · (try dsimp only); rw [if_pos]
    cases e : H p with
    | none => exact absurd e h
    | some o => rfl
theorem R.flat {K : PySem.W.Frag} {mg : Str → Option Value} {G G' : Hp} {d : D} {v : V} (f : FL.flat d = true) (h : R K mg G d v) : R K mg G' d v := by
  cases d <;> first | exact h | cases f
theorem EF.bor (h : EF X W e f) : EF X W e (bor f) := ⟨fun B => PE.mono (h.run B) fun σ H Q ⟨G, ρ, r, h⟩ => by
  obtain ⟨G1, g1, n1, t1, r1⟩ := r.fzAll'
  refine ⟨G1, frz ρ, r1, ?_⟩
  unfold FL.bor at h
  cases e1 : f (frz ρ) with
  | ok d =>
    rw [e1] at h
    dsimp only at h
    split at h
    · rename_i fd
      rw [Bool.or_eq_true, Bool.and_eq_true] at fd
      exact fun v G' H' s q => h v _ H' (bor_stp r.gh g1 s) (fd.elim (fun fd => R.flat fd q) fun fd => R.imm (bor_tup (t1 fd.2) s) fd.1 q)
    · exact h.elim
  | ex c =>
    rw [e1] at h
    dsimp only at h
    split at h
    · rename_i ep
      refine ⟨h.1, fun G' H' cls dd s q => h.2 _ H' cls dd (bor_stp r.gh g1 s) ⟨q.1, ?_⟩⟩
      have q2 := q.2
      rw [ep] at q2 ⊢
      exact q2
    · exact h.elim
  | bad => rw [e1] at h; exact h⟩
/-! ### tests -/
def asB : D → Res Bool
  | .bl b => .ok b
  | _ => .bad
theorem asB_ok {K : PySem.W.Frag} {mg : Str → Option Value} {W : WW} {σ : L2.St} {G H : Hp} {d : D} {x : V} {k : Bool → Bool → Hp → Hp → Prop} (g : Same G H) (q : R K mg G d x) (w : Wr K mg relB W σ G H (asB d) k) : ∃ b, x = .bl b ∧ k b b G H := by
  cases d <;> first | exact w.elim | skip
  exact ⟨_, q, w.ok (Stp.refl g) rfl⟩
theorem ET.val (h : EF X W e f) (he : ∀ whole, isTrue e X.env whole = (do let v ← whole; standAt e.pos; holding [v] (truthy v)) := by intro _; rfl) : ET X W e (fun ρ => (f ρ).bind asB) := ⟨fun B => PT.mono (pt_val (h.run B) he) fun σ H Q ⟨G, ρ, r, h⟩ =>
  lift.next (g := fun a _ => asB a) later_B r h fun a b G1 H1 r1 s q w => by
    obtain ⟨b, e, w⟩ := asB_ok r1.gh q w
    exact ⟨b, e, w⟩⟩
theorem EF.cmp {op : CmpOp} (h : EC X W op a b f) (h1 : behindInMarks op b = false := by first | exact nobehind _ (by decide) (by decide) | rfl) : EF X W (.Compare a [op] [b] pos) f := ⟨fun B => pe_cmp (h.run B) h1⟩
theorem ET.cmp {op : CmpOp} (h : EC X W op a b f) (h1 : behindInMarks op b = false := by first | exact nobehind _ (by decide) (by decide) | rfl) : ET X W (.Compare a [op] [b] pos) (fun ρ => (f ρ).bind asB) := ⟨fun B => PT.mono (pt_cmp (h.run B) h1) fun σ H Q ⟨G, ρ, r, h⟩ =>
  lift.next (g := fun a _ => asB a) later_B r h fun a b G1 H1 r1 s q w => by
    obtain ⟨b, e, w⟩ := asB_ok r1.gh q w
    exact ⟨b, e, w⟩⟩
def andT (f g : En → Res Bool) (ρ : En) : Res Bool := (f ρ).bind fun b => if b = true then g ρ else .ok false
def orT (f g : En → Res Bool) (ρ : En) : Res Bool := (f ρ).bind fun b => if b = true then .ok true else g ρ
def notT (f : En → Res Bool) (ρ : En) : Res Bool := (f ρ).bind fun b => .ok (!b)
section
variable {ta tb : En → Res Bool} {rest : List Expr}
theorem ET.and1 (h : ET X W a ta) : EW X W (.BoolOp .And [a] pos) ta := ⟨fun B => pw_and1 (h.run B)⟩
theorem ET.or1 (h : ET X W a ta) : EW X W (.BoolOp .Or [a] pos) ta := ⟨fun B => pw_or1 (h.run B)⟩
theorem ET.and (h : ET X W a ta) (h2 : EW X W (.BoolOp .And (b :: rest) pos) tb) : EW X W (.BoolOp .And (a :: b :: rest) pos) (andT ta tb) := ⟨fun B => PW.mono (pw_and (h.run B) (h2.run B)) fun σ H Q ⟨G, ρ, r, h⟩ =>
  lift.next (rel := relB) (g := fun b ρ => if b = true then tb ρ else .ok false) later_B r h fun a b G1 H1 r1 s q w => by
    cases q
    cases a with
    | true => exact ⟨G1, ρ, r1, w⟩
    | false => exact w.ok (Stp.refl r1.gh) rfl⟩
theorem ET.or (h : ET X W a ta) (h2 : EW X W (.BoolOp .Or (b :: rest) pos) tb) : EW X W (.BoolOp .Or (a :: b :: rest) pos) (orT ta tb) := ⟨fun B => PW.mono (pw_or (h.run B) (h2.run B)) fun σ H Q ⟨G, ρ, r, h⟩ =>
  lift.next (rel := relB) (g := fun b ρ => if b = true then .ok true else tb ρ) later_B r h fun a b G1 H1 r1 s q w => by
    cases q
    cases a with
    | false => exact ⟨G1, ρ, r1, w⟩
    | true => exact w.ok (Stp.refl r1.gh) rfl⟩
theorem EW.t (h : EW X W e ta) : ET X W e ta := ⟨fun B => (h.run B).pt⟩
theorem ET.not (h : ET X W a ta) : ET X W (.UnaryOp .Not a pos) (notT ta) := ⟨fun B => PT.mono (pt_not (h.run B)) fun σ H Q ⟨G, ρ, r, h⟩ =>
  lift.next (rel := relB) (g := fun b _ => .ok (!b)) later_B r h fun a b G1 H1 r1 s q w => by
    cases q
    exact w.ok (Stp.refl r1.gh) rfl⟩
end
/-- .. as values -/
def andD (f g : En → Res D) (ρ : En) : Res D := (f ρ).bind fun d => (asB d).bind fun b => if b = true then g ρ else .ok (.bl false)
def orD (f g : En → Res D) (ρ : En) : Res D := (f ρ).bind fun d => (asB d).bind fun b => if b = true then .ok (.bl true) else g ρ
def notD (f : En → Res D) (ρ : En) : Res D := (f ρ).bind fun d => (asB d).bind fun b => .ok (.bl (!b))
theorem asB_next {K : PySem.W.Frag} {mg : Str → Option Value} {W : WW} {σ : L2.St} {G H : Hp} {d : D} {x : V} {g : Bool → Res D} {k : D → V → Hp → Hp → Prop} (g1 : Same G H) (q : R K mg G d x) (w : Wr K mg (relD K mg) W σ G H ((asB d).bind g) k) :
    ∃ b, x = .bl b ∧ Wr K mg (relD K mg) W σ G H (g b) k := by
  cases d <;> first | exact w.elim | skip
  exact ⟨_, q, w⟩
section
variable {rest : List Expr}
theorem EF.one {op : BoolOp} (h : EF X W a f) : EF X W (.BoolOp op [a] pos) f := ⟨fun B => pe_one (h.run B)⟩
theorem EF.and (h : EF X W a fa) (h2 : EF X W (.BoolOp .And (b :: rest) pos) fb) : EF X W (.BoolOp .And (a :: b :: rest) pos) (andD fa fb) := ⟨fun B => PE.mono (pe_and (h.run B) (h2.run B)) fun σ H Q ⟨G, ρ, r, h⟩ =>
  lift.next (rel := relD X.K X.mg) (g := fun d ρ => (asB d).bind fun b => if b = true then fb ρ else .ok (.bl false)) later_D r h fun a b G1 H1 r1 s q w => by
    obtain ⟨b, e, w⟩ := asB_next r1.gh q w
    refine ⟨b, e, ?_⟩
    cases b with
    | true => exact ⟨G1, ρ, r1, w⟩
    | false => exact w.ok (Stp.refl r1.gh) rfl⟩
theorem EF.or (h : EF X W a fa) (h2 : EF X W (.BoolOp .Or (b :: rest) pos) fb) : EF X W (.BoolOp .Or (a :: b :: rest) pos) (orD fa fb) := ⟨fun B => PE.mono (pe_or (h.run B) (h2.run B)) fun σ H Q ⟨G, ρ, r, h⟩ =>
  lift.next (rel := relD X.K X.mg) (g := fun d ρ => (asB d).bind fun b => if b = true then .ok (.bl true) else fb ρ) later_D r h fun a b G1 H1 r1 s q w => by
    obtain ⟨b, e, w⟩ := asB_next r1.gh q w
    refine ⟨b, e, ?_⟩
    cases b with
    | false => exact ⟨G1, ρ, r1, w⟩
    | true => exact w.ok (Stp.refl r1.gh) rfl⟩
theorem EF.not (h : EF X W a fa) : EF X W (.UnaryOp .Not a pos) (notD fa) := ⟨fun B => PE.mono (pe_not (h.run B)) fun σ H Q ⟨G, ρ, r, h⟩ =>
  lift.next (rel := relD X.K X.mg) (g := fun d _ => (asB d).bind fun b => .ok (.bl (!b))) later_D r h fun a b G1 H1 r1 s q w => by
    obtain ⟨b, e, w⟩ := asB_next r1.gh q w
    exact ⟨b, e, w.ok (Stp.refl r1.gh) rfl⟩⟩
def ifD (t : En → Res Bool) (f g : En → Res D) (ρ : En) : Res D := (t ρ).bind fun b => if b = true then f ρ else g ρ
theorem EF.ifExp {t : Expr} {tt : En → Res Bool} (h : ET X W t tt) (h1 : EF X W a fa) (h2 : EF X W b fb) : EF X W (.IfExp t a b pos) (ifD tt fa fb) := ⟨fun B => PE.mono (pe_ifExp (h.run B) (h1.run B) (h2.run B)) fun σ H Q ⟨G, ρ, r, h⟩ =>
  lift.next (rel := relB) (g := fun b ρ => if b = true then fa ρ else fb ρ) later_D r h fun a b G1 H1 r1 s q w => by
    cases q
    cases a with
    | true => exact ⟨G1, ρ, r1, w⟩
    | false => exact ⟨G1, ρ, r1, w⟩⟩
end
/-! ### argument lists -/
def nilA (_ : En) : Res (List D) := .ok []
def consA (f : En → Res D) (g : En → Res (List D)) (ρ : En) : Res (List D) := (f ρ).bind fun d => (g ρ).bind fun ds => .ok (d :: ds)
theorem EA.nil : EA X W [] nilA := ⟨fun B => PA.mono pa_nil fun σ H Q ⟨G, ρ, r, h⟩ => h.ok (Stp.refl r.gh) rfl⟩
theorem EA.cons (h : EF X W e f) (h2 : EA X W es fs) (hs : starEach (e :: es) X.env = (false, eval e X.env) :: starEach es X.env := by rfl) : EA X W (e :: es) (consA f fs) := ⟨fun B => PA.mono (pa_cons (h.run B) (h2.run B) hs) fun σ H Q ⟨G, ρ, r, h⟩ =>
  lift.next (rel := relD X.K X.mg) (g := fun d ρ => (fs ρ).bind fun ds => .ok (d :: ds)) later_L r h fun a b G1 H1 r1 s q w =>
    lift.next (rel := relL X.K X.mg) (g := fun ds _ => .ok (a :: ds)) later_L r1 w fun as bs G2 H2 r2 s2 q2 w2 => w2.ok (Stp.refl r2.gh) ⟨b, bs, rfl, R.mono s2.gg q, q2⟩⟩
end
end FL
/-! The functional layer, part D: operators, comparisons, subscripts by data. -/
namespace FL
open PySem PySem.Spec PyProof.Rows L2
/-! ### the functions of data -/
def ofO {α : Type} : Option α → Res α
  | some a => .ok a
  | none => .bad
@[simp] theorem ofO_some {α : Type} (a : α) : ofO (some a) = .ok a := rfl
@[simp] theorem ofO_none {α : Type} : ofO (none : Option α) = .bad := rfl
def op1 (g : D → Option D) (f : En → Res D) (ρ : En) : Res D := (f ρ).bind fun x => ofO (g x)
def op2 (g : D → D → Option D) (f h : En → Res D) (ρ : En) : Res D := (f ρ).bind fun x => (h ρ).bind fun y => ofO (g x y)
def addD : D → D → Option D
  | .int i, .int j => some (.int (i + j))
  | .str a, .str b => if a.length + b.length ≤ 16777216 then some (.str (a ++ b)) else none
  | .lst a, .lst b => if a.length + b.length ≤ 16777216 then some (.lst (a ++ b)) else none
  | .tup a, .tup b => if a = [] then none else if a.length + b.length ≤ 16777216 then some (.tup (a ++ b)) else none
  | _, _ => none
def subD : D → D → Option D
  | .int i, .int j => some (.int (i - j))
  | _, _ => none
/-- a text so many times -/
def repS (a : Str) (n : Nat) : Str := ⟨(List.replicate n a.cps.toList).flatten.toArray⟩
def mulD : D → D → Option D
  | .int i, .int j => if (-(2 ^ 64) < i ∧ i < 2 ^ 64) ∨ (-(2 ^ 64) < j ∧ j < 2 ^ 64) then some (.int (i * j)) else none
  | .lst a, .int k => if -(2 ^ 63) ≤ k ∧ k < 2 ^ 63 ∧ a.length * k.toNat ≤ 16777216 then some (.lst (List.replicate k.toNat a).flatten) else none
  | .str a, .int k => if -(2 ^ 63) ≤ k ∧ k < 2 ^ 63 ∧ a.length * k.toNat ≤ 16777216 then some (.str (repS a k.toNat)) else none
  | _, _ => none
def fdivD : D → D → Option D
  | .int i, .int j => if 0 < j ∧ j < 1073741824 then some (.int (i / j)) else none
  | _, _ => none
def modD : D → D → Option D
  | .int i, .int j => if 0 < j then some (.int (i % j)) else none
  | _, _ => none
def powD : D → D → Option D
  | .int i, .int j => if 0 ≤ j ∧ j ≤ 1000000 ∧ i.natAbs < 2 ^ 64 then some (.int (i ^ j.toNat)) else none
  | _, _ => none
def negD : D → Option D
  | .int i => some (.int (-i))
  | _ => none
def isN : D → Option D := fun d => some (.bl (match d with | .non => true | _ => false))
def notN : D → Option D := fun d => some (.bl (match d with | .non => false | _ => true))
mutual
/-- x == y -/
def eqv : D → D → Bool
  | .non, .non => true
  | .bl a, .bl b => a == b
  | .bl a, .int j => (if a then 1 else 0) == j
  | .int i, .bl b => i == (if b then 1 else 0)
  | .int i, .int j => i == j
  | .str x, .str y => x == y
  | .lst xs, .lst ys => eqvs xs ys
  | .tup xs, .tup ys => eqvs xs ys
  | _, _ => false
def eqvs : List D → List D → Bool
  | [], [] => true
  | x :: xs, y :: ys => eqv x y && eqvs xs ys
  | _, _ => false
end
mutual
/-- none, bools, ints, texts, lists, tuples, at most n deep -/
def plain : Nat → D → Bool
  | _, .non => true
  | _, .bl _ => true
  | _, .int _ => true
  | _, .str _ => true
  | n, .lst xs => plains n xs
  | n, .tup xs => plains n xs
  | _, _ => false
def plains : Nat → List D → Bool
  | 0, _ => false
  | _ + 1, [] => true
  | n + 1, x :: xs => plain n x && plains (n + 1) xs
end
mutual
def py : D → PyData
  | .non => .none
  | .bl b => .bool b
  | .int i => .int i
  | .str z => .str z
  | .lst xs => .list (pys xs)
  | .tup xs => .tuple (pys xs)
  | _ => .none
def pys : List D → List PyData
  | [] => []
  | x :: xs => py x :: pys xs
end
/-- x < y of alike rows -/
def ordD (f : Bool → Bool → Bool) (a b : D) : Option D := if (plain 60 a && (plain 60 b && PySem.W.alike (py a) (py b))) = true then some (.bl (f (PySem.W.dataLt (py a) (py b)) (PySem.W.dataLt (py b) (py a)))) else none
def ltD : D → D → Option D
  | .int i, .int j => some (.bl (decide (i < j)))
  | .str i, .str j => some (.bl (decide (i.cps.toList < j.cps.toList)))
  | .lst a, .lst b => ordD (fun x _ => x) (.lst a) (.lst b)
  | .tup a, .tup b => ordD (fun x _ => x) (.tup a) (.tup b)
  | _, _ => none
def leD : D → D → Option D
  | .int i, .int j => some (.bl (decide (i ≤ j)))
  | .str i, .str j => some (.bl (!decide (j.cps.toList < i.cps.toList)))
  | .lst a, .lst b => ordD (fun _ y => !y) (.lst a) (.lst b)
  | .tup a, .tup b => ordD (fun _ y => !y) (.tup a) (.tup b)
  | _, _ => none
def gtD : D → D → Option D
  | .int i, .int j => some (.bl (decide (j < i)))
  | .str i, .str j => some (.bl (decide (j.cps.toList < i.cps.toList)))
  | .lst a, .lst b => ordD (fun _ y => y) (.lst a) (.lst b)
  | .tup a, .tup b => ordD (fun _ y => y) (.tup a) (.tup b)
  | _, _ => none
def geD : D → D → Option D
  | .int i, .int j => some (.bl (decide (j ≤ i)))
  | .str i, .str j => some (.bl (!decide (i.cps.toList < j.cps.toList)))
  | .lst a, .lst b => ordD (fun x _ => !x) (.lst a) (.lst b)
  | .tup a, .tup b => ordD (fun x _ => !x) (.tup a) (.tup b)
  | _, _ => none
def eqD (a b : D) : Option D := if (plain 64 a && plain 64 b) = true then some (.bl (eqv a b)) else none
def neD (a b : D) : Option D := if (plain 64 a && plain 64 b) = true then some (.bl (!eqv a b)) else none
def keyOf : D → Option Key
  | .int i => some (.inl i)
  | .str z => some (.inr z)
  | _ => none
def keysOf : List D → Option (List Key)
  | [] => some []
  | d :: ds => (keyOf d).bind fun k => (keysOf ds).bind fun ks => some (k :: ks)
def look {κ α : Type} [DecidableEq κ] : List κ → List α → κ → Option α
  | k :: ks, x :: xs, q => if k = q then some x else look ks xs q
  | _, _, _ => none
def ixD : D → D → Option D
  | .lst xs, .int i => atI xs i
  | .tup xs, .int i => atI xs i
  | .str z, .int i => (atI z.cps.toList i).map fun c => .str ⟨#[c]⟩
  | .scr ns, .int i => (atI ns i).map .int
  | .dK ks xs, k => (keyOf k).bind fun k => look ks xs k
  | .dT ks xs, .tup k => (keysOf k).bind fun k => look ks xs k
  | _, _ => none
def inD : D → D → Option Bool
  | x, .lst xs => if (flat x && xs.all flat) = true then some (xs.any fun y => eqv y x) else none
  | x, .tup xs => if (flat x && xs.all flat) = true then some (xs.any fun y => eqv y x) else none
  | .str a, .str z => if a.cps.size = 1 then some (decide (a.cps.getD 0 0 ∈ z.cps.toList)) else none
  | k, .dK ks xs => (keyOf k).bind fun k => some (look ks xs k).isSome
  | .tup k, .dT ks xs => (keysOf k).bind fun k => some (look ks xs k).isSome
  | _, _ => none
def inD1 (x y : D) : Option D := (inD x y).map .bl
def ninD1 (x y : D) : Option D := (inD x y).map fun b => .bl (!b)
def lenD : D → Option D
  | .lst xs => some (.int xs.length)
  | .tup xs => some (.int xs.length)
  | .str z => some (.int z.length)
  | .scr ns => some (.int ns.length)
  | .dK ks xs => some (.int ks.length)
  | _ => none
/-! ### operators -/
section
variable {X : Cx} {W : WW}
def rD (X : Cx) (g : D → D → Option D) : R2 := fun x y H Q => ∃ G d e c, Same G H ∧ R X.K X.mg G d x ∧ R X.K X.mg G e y ∧ g d e = some c ∧ ∀ v G' H', Stp G H G' H' → R X.K X.mg G' c v → Q v H'
def OpD (X : Cx) (f : Value → Value → Sem Value) (g : D → D → Option D) : Prop := OpR X f (rD X g)
def UnD (X : Cx) (f : Value → Sem Value) (g : D → Option D) : Prop := UnR X f fun x H Q => ∃ G d c, Same G H ∧ R X.K X.mg G d x ∧ g d = some c ∧ ∀ v G' H', Stp G H G' H' → R X.K X.mg G' c v → Q v H'
theorem R.lst {K : PySem.W.Frag} {mg : Str → Option Value} {G : Hp} {ds : List D} {x : V} (h : R K mg G (.lst ds) x) : ∃ a vs, x = .ref a ∧ ds.length ≤ sizeLine ∧ G a = some (.lst vs) ∧ Rs K mg G ds vs := h
theorem R.tup {K : PySem.W.Frag} {mg : Str → Option Value} {G : Hp} {ds : List D} {x : V} (h : R K mg G (.tup ds) x) : ∃ a vs, x = .ref a ∧ ds.length ≤ sizeLine ∧ G a = some (.tup vs) ∧ Rs K mg G ds vs := h
theorem R.newL {K : PySem.W.Frag} {mg : Str → Option Value} {G : Hp} {ds : List D} {vs : List V} {p : Addr} (n : G p = none) (l : ds.length ≤ sizeLine) (h : Rs K mg G ds vs) : R K mg (upd G p (.lst vs)) (.lst ds) (.ref p) := ⟨p, vs, rfl, l, upd_same, Rs.mono (same_new n) h⟩
theorem R.newT {K : PySem.W.Frag} {mg : Str → Option Value} {G : Hp} {ds : List D} {vs : List V} {p : Addr} (n : G p = none) (l : ds.length ≤ sizeLine) (h : Rs K mg G ds vs) : R K mg (upd G p (.tup vs)) (.tup ds) (.ref p) := ⟨p, vs, rfl, l, upd_same, Rs.mono (same_new n) h⟩
theorem strOk_append {a b : Str} (ha : PyData.strOk a = true) (hb : PyData.strOk b = true) : PyData.strOk (a ++ b) = true := by
  unfold PyData.strOk at *
  show (a.cps ++ b.cps).all _ = true
  rw [Array.all_append, ha, hb]; rfl
theorem strOk_one {z : Str} {c : Nat} (h : PyData.strOk z = true) (m : c ∈ z.cps.toList) : PyData.strOk ⟨#[c]⟩ = true := by
  unfold PyData.strOk at *
  rw [← Array.all_toList] at *
  have := List.all_eq_true.mp h c m
  simpa using this
theorem sz_le {n : Nat} (h : n ≤ 16777216) : n ≤ sizeLine := by rw [sizeLine_eq]; exact h
theorem add_ok : OpD X (binaryOp .Add) addD := by
  rintro pins s σ H x y v u Q I rx ry ⟨G, d, e, c, gh, r1, r2, hg, k⟩
  unfold addD at hg
  split at hg
  · cases hg; exact op_add pins s σ H x y v u Q I rx ry ⟨_, _, r1, r2, k _ _ _ (Stp.refl gh) rfl⟩
  · split at hg
    · rename_i hl; cases hg
      obtain ⟨rfl, z1, z2⟩ := r1
      obtain ⟨rfl, y1, y2⟩ := r2
      exact op_add_str pins s σ H _ _ v u Q I rx ry ⟨_, _, rfl, rfl, sz_le hl, k _ _ _ (Stp.refl gh) ⟨rfl, by rw [PySem.Str.length_append]; exact sz_le hl, strOk_append z2 y2⟩⟩
    · cases hg
  · split at hg
    · rename_i hl; cases hg
      obtain ⟨p, vs, rfl, _, e1, q1⟩ := r1.lst
      obtain ⟨p2, us, rfl, _, e2, q2⟩ := r2.lst
      refine op_cat pins s σ H _ _ v u Q I rx ry ⟨p, p2, vs, us, rfl, rfl, gh _ _ e1, gh _ _ e2, by rw [q1.len, q2.len]; exact sz_le hl, fun q hq => ?_⟩
      exact k _ _ _ (Stp.new gh hq) (R.newL (gh.free hq) (by rw [List.length_append]; exact sz_le hl) (q1.append q2))
    · cases hg
  · split at hg
    · cases hg
    · rename_i hn
      split at hg
      · rename_i hl; cases hg
        obtain ⟨p, vs, rfl, l1, e1, q1⟩ := r1.tup
        obtain ⟨p2, us, rfl, _, e2, q2⟩ := r2.tup
        have l1' := q1.len
        have l2' := q2.len
        refine op_catT pins s σ H _ _ v u Q I rx ry ⟨p, p2, vs, us, rfl, rfl, SqT.of (gh _ _ e1), SqT.of (gh _ _ e2), fun z => ?_, by rw [q1.len, q2.len]; exact sz_le hl, fun z => ?_, fun z q hq => ?_⟩
        · rw [z] at l1'
          exact hn (List.length_eq_zero_iff.mp l1'.symm)
        · rw [z] at l2'
          have hb := List.length_eq_zero_iff.mp l2'.symm
          refine k _ _ _ (Stp.refl gh) ?_
          rw [hb, List.append_nil]
          exact ⟨p, vs, rfl, l1, e1, q1⟩
        · exact k _ _ _ (Stp.new gh hq) (R.newT (gh.free hq) (by rw [List.length_append]; exact sz_le hl) (q1.append q2))
      · cases hg
  · cases hg
theorem sub_ok : OpD X (binaryOp .Sub) subD := by
  rintro pins s σ H x y v u Q I rx ry ⟨G, d, e, c, gh, r1, r2, hg, k⟩
  unfold subD at hg
  split at hg
  · cases hg; exact op_sub pins s σ H x y v u Q I rx ry ⟨_, _, r1, r2, k _ _ _ (Stp.refl gh) rfl⟩
  · cases hg
theorem Rs.rep {K : PySem.W.Frag} {mg : Str → Option Value} {G : Hp} {ds : List D} {vs : List V} (h : Rs K mg G ds vs) : ∀ n : Nat, Rs K mg G (List.replicate n ds).flatten (List.replicate n vs).flatten
  | 0 => rfl
  | n + 1 => by
    rw [List.replicate_succ, List.replicate_succ, List.flatten_cons, List.flatten_cons]
    exact h.append (Rs.rep h n)
theorem repS_fold (c : Array Nat) : ∀ (n : Nat) (acc : Array Nat), ((List.replicate n c).foldl (fun a b => a ++ b) acc).toList = acc.toList ++ (List.replicate n c.toList).flatten
  | 0, acc => by simp
  | n + 1, acc => by
    rw [List.replicate_succ, List.foldl_cons, repS_fold c n, List.replicate_succ, List.flatten_cons, Array.toList_append, List.append_assoc]
theorem repS_len (a : Str) (n : Nat) : (repS a n).length = a.length * n := by
  show (List.replicate n a.cps.toList).flatten.toArray.size = a.cps.size * n
  rw [List.size_toArray, List.length_flatten, List.map_replicate, List.sum_replicate_nat, Array.length_toList, Nat.mul_comm]
theorem repS_ok {a : Str} (n : Nat) (h : PyData.strOk a = true) : PyData.strOk (repS a n) = true := by
  unfold PyData.strOk at *
  show (List.replicate n a.cps.toList).flatten.toArray.all _ = true
  rw [List.all_toArray, List.all_flatten, List.all_replicate, Array.all_toList, h]
  simp
theorem op_mul_str : OpR X (binaryOp .Mult) (fun x y H Q => ∃ (a : Str) (k : Int), x = .str a ∧ y = .int k ∧ -(2 ^ 63) ≤ k ∧ k < 2 ^ 63 ∧ a.length * k.toNat ≤ sizeLine ∧ Q (.str (repS a k.toNat)) H) := by
  intro pins s σ H x y v u Q I rx ry ⟨a, k, e1, e2, h1, h2, hz, q⟩
  subst e1 e2
  obtain ⟨t, rfl⟩ := rx
  obtain ⟨t2, rfl⟩ := ry
  have hs : sizeLine = 16777216 := sizeLine_eq
  refine PySem.P.mul_str (by rw [decide_eq_false (by omega), decide_eq_false (by omega)]; rfl) (fun g1 _ => ?_) (fun g1 _ => decide_eq_false (by omega)) ?_
  · have e : ((a.length * k.toNat : Nat) : Int) = (a.length : Int) * k := by
      rw [Int.natCast_mul, Int.toNat_of_nonneg (by omega)]
    have := Int.le_ediv_of_mul_le (a := (a.length : Int)) (b := 2 ^ 63 - 1) (c := k) (by omega) (by omega)
    omega
  · split
    · have e : repS a k.toNat = Str.empty := by rw [show k.toNat = 0 by omega]; rfl
      rw [e] at q
      exact ⟨by decide, .str Str.empty, H, I.tok _, ⟨_, rfl⟩, q⟩
    · split
      · rename_i g1 g2
        have e : repS a k.toNat = a := by
          rcases Bool.or_eq_true_iff.mp g2 with g2 | g2
          · rw [show k = 1 by simpa using g2]
            show (⟨(List.replicate 1 a.cps.toList).flatten.toArray⟩ : Str) = a
            simp
          · have e0 : a.cps = #[] := Array.eq_empty_of_size_eq_zero (show a.length = 0 by simpa using g2)
            obtain ⟨c⟩ := a
            dsimp only at e0
            subst e0
            unfold repS
            simp
        rw [e] at q
        exact ⟨.str a, H, I, ⟨t, rfl⟩, q⟩
      · have e : (⟨(List.replicate k.toNat a.cps).foldl (fun x y => x ++ y) #[]⟩ : Str) = repS a k.toNat := by
          unfold repS
          congr 1
          apply Array.toList_inj.mp
          rw [repS_fold]; simp
        exact ⟨by rw [e, repS_len]; exact hz, .str (repS a k.toNat), H, I.tok _, ⟨_, by rw [e]⟩, q⟩
theorem mul_ok : OpD X (binaryOp .Mult) mulD := by
  rintro pins s σ H x y v u Q I rx ry ⟨G, d, e, c, gh, r1, r2, hg, k⟩
  unfold mulD at hg
  split at hg
  · split at hg
    · rename_i hl; cases hg; exact op_mul pins s σ H x y v u Q I rx ry ⟨_, _, r1, r2, hl, k _ _ _ (Stp.refl gh) rfl⟩
    · cases hg
  · split at hg
    · rename_i a n hl; cases hg
      obtain ⟨p, vs, rfl, _, e1, q1⟩ := r1.lst
      refine op_rep pins s σ H _ y v u Q I rx ry ⟨p, n, vs, rfl, r2, gh _ _ e1, hl.1, hl.2.1, by rw [q1.len]; exact sz_le hl.2.2, fun q hq => ?_⟩
      exact k _ _ _ (Stp.new gh hq) (R.newL (gh.free hq) (by rw [List.length_flatten, List.map_replicate, List.sum_replicate_nat, Nat.mul_comm]; exact sz_le hl.2.2) (q1.rep _))
    · cases hg
  · split at hg
    · rename_i hl; cases hg
      obtain ⟨rfl, z1, z2⟩ := r1
      exact op_mul_str pins s σ H _ y v u Q I rx ry ⟨_, _, rfl, r2, hl.1, hl.2.1, sz_le hl.2.2, k _ _ _ (Stp.refl gh) ⟨rfl, by rw [repS_len]; exact sz_le hl.2.2, repS_ok _ z2⟩⟩
    · cases hg
  · cases hg
theorem fdiv_ok : OpD X (binaryOp .FloorDiv) fdivD := by
  rintro pins s σ H x y v u Q I rx ry ⟨G, d, e, c, gh, r1, r2, hg, k⟩
  unfold fdivD at hg
  split at hg
  · split at hg
    · rename_i hl; cases hg; exact op_fdiv pins s σ H x y v u Q I rx ry ⟨_, _, r1, r2, hl, k _ _ _ (Stp.refl gh) rfl⟩
    · cases hg
  · cases hg
theorem mod_ok : OpD X (binaryOp .Mod) modD := by
  rintro pins s σ H x y v u Q I rx ry ⟨G, d, e, c, gh, r1, r2, hg, k⟩
  unfold modD at hg
  split at hg
  · split at hg
    · rename_i hl; cases hg; exact op_mod pins s σ H x y v u Q I rx ry ⟨_, _, r1, r2, hl, k _ _ _ (Stp.refl gh) rfl⟩
    · cases hg
  · cases hg
theorem pow_ok : OpD X (binaryOp .Pow) powD := by
  rintro pins s σ H x y v u Q I rx ry ⟨G, d, e, c, gh, r1, r2, hg, k⟩
  unfold powD at hg
  split at hg
  · split at hg
    · rename_i hl; cases hg; exact op_pow pins s σ H x y v u Q I rx ry ⟨_, _, r1, r2, hl, k _ _ _ (Stp.refl gh) rfl⟩
    · cases hg
  · cases hg
theorem neg_ok : UnD X (unaryOp .USub) negD := by
  rintro pins s σ H x v Q I rx ⟨G, d, c, gh, r1, hg, k⟩
  unfold negD at hg
  split at hg
  · cases hg; exact un_neg pins s σ H x v Q I rx ⟨_, r1, k _ _ _ (Stp.refl gh) rfl⟩
  · cases hg
/-! equality -/
mutual
theorem py_dp {K : PySem.W.Frag} {mg : Str → Option Value} {G H : Hp} (gh : Same G H) : ∀ (n : Nat) (d : D) (x : V), plain n d = true → R K mg G d x → Dp K H x (py d)
  | _, .non, x, _, r => by rw [show x = .non from r]; exact .non
  | _, .bl b, x, _, r => by rw [show x = .bl b from r]; exact .bl b
  | _, .int i, x, _, r => by rw [show x = .int i from r]; exact .int i
  | _, .str z, x, _, r => by rw [show x = .str z from r.1]; exact .str z
  | n, .lst xs, x, p, r => by
    obtain ⟨a, vs, rfl, l, e, q⟩ := r.lst
    exact .lst (SqL.of (gh _ _ e)) (pys_dp gh n xs vs (by simpa [plain] using p) q)
  | n, .tup xs, x, p, r => by
    obtain ⟨a, vs, rfl, l, e, q⟩ := r.tup
    exact .tup (SqT.of (gh _ _ e)) (pys_dp gh n xs vs (by simpa [plain] using p) q)
  | _, .dK _ _, _, p, _ => by simp [plain] at p
  | _, .dT _ _, _, p, _ => by simp [plain] at p
  | _, .ins _ _ _, _, p, _ => by simp [plain] at p
  | _, .scr _, _, p, _ => by simp [plain] at p
  | _, .exn _, _, p, _ => by simp [plain] at p
theorem pys_dp {K : PySem.W.Frag} {mg : Str → Option Value} {G H : Hp} (gh : Same G H) : ∀ (n : Nat) (ds : List D) (vs : List V), plains n ds = true → Rs K mg G ds vs → DpAll K H vs (pys ds)
  | 0, _, _, p, _ => by simp [plains] at p
  | n + 1, [], vs, _, r => by rw [show vs = [] from r]; exact .nil
  | n + 1, d :: ds, vs, p, r => by
    obtain ⟨v, t, rfl, h, q⟩ := r
    simp only [plains, Bool.and_eq_true] at p
    exact .cons (py_dp gh n d v p.1 h) (pys_dp gh (n + 1) ds t p.2 q)
end
mutual
theorem py_lay {K : PySem.W.Frag} {mg : Str → Option Value} {G : Hp} : ∀ (n : Nat) (d : D) (x : V), plain n d = true → R K mg G d x → (py d).canLay0 = true ∧ (py d).depth ≤ n
  | _, .non, x, _, r => by simp [py, PyData.canLay0, PyData.depth]
  | _, .bl b, x, _, r => by simp [py, PyData.canLay0, PyData.depth]
  | _, .int i, x, _, r => by simp [py, PyData.canLay0, PyData.depth]
  | _, .str z, x, _, r => by simp [py, PyData.canLay0, PyData.depth, r.2.2]
  | n, .lst xs, x, p, r => by
    obtain ⟨a, vs, rfl, l, e, q⟩ := r.lst
    have h := pys_lay n xs vs (by simpa [plain] using p) q
    simp only [py, PyData.canLay0, PyData.depth]
    exact ⟨h.1, by have := h.2; omega⟩
  | n, .tup xs, x, p, r => by
    obtain ⟨a, vs, rfl, l, e, q⟩ := r.tup
    have h := pys_lay n xs vs (by simpa [plain] using p) q
    simp only [py, PyData.canLay0, PyData.depth]
    exact ⟨h.1, by have := h.2; omega⟩
  | _, .dK _ _, _, p, _ => by simp [plain] at p
  | _, .dT _ _, _, p, _ => by simp [plain] at p
  | _, .ins _ _ _, _, p, _ => by simp [plain] at p
  | _, .scr _, _, p, _ => by simp [plain] at p
  | _, .exn _, _, p, _ => by simp [plain] at p
theorem pys_lay {K : PySem.W.Frag} {mg : Str → Option Value} {G : Hp} : ∀ (n : Nat) (ds : List D) (vs : List V), plains n ds = true → Rs K mg G ds vs → PyData.canLayAll0 (pys ds) = true ∧ PyData.depthAll (pys ds) + 1 ≤ n
  | 0, _, _, p, _ => by simp [plains] at p
  | n + 1, [], vs, _, r => by simp [pys, PyData.canLayAll0, PyData.depthAll]
  | n + 1, d :: ds, vs, p, r => by
    obtain ⟨v, t, rfl, h, q⟩ := r
    simp only [plains, Bool.and_eq_true] at p
    have h1 := py_lay n d v p.1 h
    have h2 := pys_lay (n + 1) ds t p.2 q
    simp only [pys, PyData.canLayAll0, PyData.depthAll, Bool.and_eq_true]
    exact ⟨⟨h1.1, h2.1⟩, by have := h1.2; have := h2.2; omega⟩
end
mutual
theorem eqv_py : ∀ (n : Nat) (d e : D), plain n d = true → plain n e = true → PyData.eqv (py d) (py e) = eqv d e
  | n, .lst xs, e, p, q => by
    cases e <;> first | (simp [plain] at q; done) | (simp [py, PyData.eqv, eqv]; done) | skip
    rename_i ys
    simp only [py, PyData.eqv, eqv]
    exact eqvs_py n xs ys (by simpa [plain] using p) (by simpa [plain] using q)
  | n, .tup xs, e, p, q => by
    cases e <;> first | (simp [plain] at q; done) | (simp [py, PyData.eqv, eqv]; done) | skip
    rename_i ys
    simp only [py, PyData.eqv, eqv]
    exact eqvs_py n xs ys (by simpa [plain] using p) (by simpa [plain] using q)
  | _, .non, e, p, q => by cases e <;> first | (simp [plain] at q; done) | (simp [py, PyData.eqv, eqv]; done)
  | _, .bl _, e, p, q => by cases e <;> first | (simp [plain] at q; done) | (simp [py, PyData.eqv, eqv]; done)
  | _, .int _, e, p, q => by cases e <;> first | (simp [plain] at q; done) | (simp [py, PyData.eqv, eqv]; done)
  | _, .str _, e, p, q => by cases e <;> first | (simp [plain] at q; done) | (simp [py, PyData.eqv, eqv]; done)
  | _, .dK _ _, _, p, _ => by simp [plain] at p
  | _, .dT _ _, _, p, _ => by simp [plain] at p
  | _, .ins _ _ _, _, p, _ => by simp [plain] at p
  | _, .scr _, _, p, _ => by simp [plain] at p
  | _, .exn _, _, p, _ => by simp [plain] at p
theorem eqvs_py : ∀ (n : Nat) (ds es : List D), plains n ds = true → plains n es = true → PyData.eqvAll (pys ds) (pys es) = eqvs ds es
  | 0, _, _, p, _ => by simp [plains] at p
  | n + 1, [], es, p, q => by cases es <;> simp [pys, PyData.eqvAll, eqvs]
  | n + 1, d :: ds, [], p, q => by simp [pys, PyData.eqvAll, eqvs]
  | n + 1, d :: ds, e :: es, p, q => by
    simp only [plains, Bool.and_eq_true] at p q
    simp only [pys, PyData.eqvAll, eqvs]
    rw [eqv_py n d e p.1 q.1, eqvs_py (n + 1) ds es p.2 q.2]
end
theorem shaped_of {K : PySem.W.Frag} {mg : Str → Option Value} {G : Hp} {d : D} {x : V} (p : plain 64 d = true) (r : R K mg G d x) : SeqAt.shaped (py d) = true := by
  obtain ⟨a, b⟩ := py_lay 64 d x p r
  unfold SeqAt.shaped
  simp [a, b]
theorem eq_ok (hu : X.A.units + 64 < cLine) : OpD X (compareOp .Eq) eqD := by
  rintro pins s σ H x y v u Q I rx ry ⟨G, d, e, c, gh, r1, r2, hg, k⟩
  unfold eqD at hg
  split at hg
  · rename_i p; cases hg
    rw [Bool.and_eq_true] at p
    exact op_eqD hu pins s σ H x y v u Q I rx ry ⟨_, _, py_dp gh 64 d x p.1 r1, py_dp gh 64 e y p.2 r2, shaped_of p.1 r1, shaped_of p.2 r2, by rw [eqv_py 64 d e p.1 p.2]; exact k _ _ _ (Stp.refl gh) rfl⟩
  · cases hg
theorem ne_ok (hu : X.A.units + 64 < cLine) : OpD X (compareOp .NotEq) neD := by
  rintro pins s σ H x y v u Q I rx ry ⟨G, d, e, c, gh, r1, r2, hg, k⟩
  unfold neD at hg
  split at hg
  · rename_i p; cases hg
    rw [Bool.and_eq_true] at p
    exact op_neD hu pins s σ H x y v u Q I rx ry ⟨_, _, py_dp gh 64 d x p.1 r1, py_dp gh 64 e y p.2 r2, shaped_of p.1 r1, shaped_of p.2 r2, by rw [eqv_py 64 d e p.1 p.2]; exact k _ _ _ (Stp.refl gh) rfl⟩
  · cases hg
theorem ord_ok {op : CmpOp} {f : Bool → Bool → Bool} (hu : X.A.units + 64 < cLine) (lem : ∀ {prog : Program} {w : World} {A : Around} {s : Shared} {a b : Value} {da db : PyData} {as bs : List Addr} {E Q : Value → Shared → Prop}, Reads s.heap a da as → Reads s.heap b db bs → PySem.W.alike da db = true → da ≠ .none → A.units + min da.depth db.depth < cLine → Q (.bool (f (PySem.W.dataLt da db) (PySem.W.dataLt db da))) s → wpAny (model prog w) A (compareOp op a b) Q E s) {d e : D} (nn : py d ≠ .none)
    (pins : List (Addr × Obj)) (s : Shared) (σ : L2.St) (H : Hp) (x y : V) (v u : Value) (Q : VK) (I : Inv X pins σ H s) (rx : RelV x v) (ry : RelV y u) {G : Hp} (gh : Same G H) (r1 : R X.K X.mg G d x) (r2 : R X.K X.mg G e y) {c : D} (hg : ordD f d e = some c) (k : ∀ v G' H', Stp G H G' H' → R X.K X.mg G' c v → Q v H') : wpAny (model X.prog X.w) X.A (compareOp op v u) (EP X pins σ Q) X.xe s := by
  unfold ordD at hg
  split at hg
  · rename_i p
    cases hg
    simp only [Bool.and_eq_true] at p
    obtain ⟨p1, p2, p3⟩ := p
    obtain ⟨as, h1⟩ := Dp.reads I _ x v (py_dp gh 60 d x p1 r1) rx
    obtain ⟨bs, h2⟩ := Dp.reads I _ y u (py_dp gh 60 e y p2 r2) ry
    have hd := (py_lay 60 d x p1 r1).2
    refine lem h1 h2 p3 nn (by have := Nat.min_le_left (py d).depth (py e).depth; omega) ⟨.bl _, H, I, rfl, k _ _ _ (Stp.refl gh) rfl⟩
  · cases hg
theorem lt_ok (hu : X.A.units + 64 < cLine) : OpD X (compareOp .Lt) ltD := by
  rintro pins s σ H x y v u Q I rx ry ⟨G, d, e, c, gh, r1, r2, hg, k⟩
  unfold ltD at hg
  split at hg
  · cases hg; exact op_lt pins s σ H x y v u Q I rx ry ⟨_, _, r1, r2, k _ _ _ (Stp.refl gh) rfl⟩
  · cases hg; exact op_lt_str pins s σ H x y v u Q I rx ry ⟨_, _, r1.1, r2.1, k _ _ _ (Stp.refl gh) rfl⟩
  · exact ord_ok hu PySem.W.lt_data (nn := by simp [py]) pins s σ H x y v u Q I rx ry gh r1 r2 hg k
  · exact ord_ok hu PySem.W.lt_data (nn := by simp [py]) pins s σ H x y v u Q I rx ry gh r1 r2 hg k
  · cases hg
theorem le_ok (hu : X.A.units + 64 < cLine) : OpD X (compareOp .LtE) leD := by
  rintro pins s σ H x y v u Q I rx ry ⟨G, d, e, c, gh, r1, r2, hg, k⟩
  unfold leD at hg
  split at hg
  · cases hg; exact op_le pins s σ H x y v u Q I rx ry ⟨_, _, r1, r2, k _ _ _ (Stp.refl gh) rfl⟩
  · cases hg; exact op_le_str pins s σ H x y v u Q I rx ry ⟨_, _, r1.1, r2.1, k _ _ _ (Stp.refl gh) rfl⟩
  · exact ord_ok hu PySem.W.le_data (nn := by simp [py]) pins s σ H x y v u Q I rx ry gh r1 r2 hg k
  · exact ord_ok hu PySem.W.le_data (nn := by simp [py]) pins s σ H x y v u Q I rx ry gh r1 r2 hg k
  · cases hg
theorem gt_ok (hu : X.A.units + 64 < cLine) : OpD X (compareOp .Gt) gtD := by
  rintro pins s σ H x y v u Q I rx ry ⟨G, d, e, c, gh, r1, r2, hg, k⟩
  unfold gtD at hg
  split at hg
  · cases hg; exact op_gt pins s σ H x y v u Q I rx ry ⟨_, _, r1, r2, k _ _ _ (Stp.refl gh) rfl⟩
  · cases hg; exact op_gt_str pins s σ H x y v u Q I rx ry ⟨_, _, r1.1, r2.1, k _ _ _ (Stp.refl gh) rfl⟩
  · exact ord_ok hu PySem.W.gt_data (nn := by simp [py]) pins s σ H x y v u Q I rx ry gh r1 r2 hg k
  · exact ord_ok hu PySem.W.gt_data (nn := by simp [py]) pins s σ H x y v u Q I rx ry gh r1 r2 hg k
  · cases hg
theorem ge_ok (hu : X.A.units + 64 < cLine) : OpD X (compareOp .GtE) geD := by
  rintro pins s σ H x y v u Q I rx ry ⟨G, d, e, c, gh, r1, r2, hg, k⟩
  unfold geD at hg
  split at hg
  · cases hg; exact op_ge pins s σ H x y v u Q I rx ry ⟨_, _, r1, r2, k _ _ _ (Stp.refl gh) rfl⟩
  · cases hg; exact op_ge_str pins s σ H x y v u Q I rx ry ⟨_, _, r1.1, r2.1, k _ _ _ (Stp.refl gh) rfl⟩
  · exact ord_ok hu PySem.W.ge_data (nn := by simp [py]) pins s σ H x y v u Q I rx ry gh r1 r2 hg k
  · exact ord_ok hu PySem.W.ge_data (nn := by simp [py]) pins s σ H x y v u Q I rx ry gh r1 r2 hg k
  · cases hg
/-! ### the rules -/
variable {a b : Expr} {fa fb : En → Res D} {pos : Pos}
theorem bin_next {g : D → D → Option D} {B : Bs} {σ : L2.St} {H : Hp} {Q : VK} (h : lift X W (relD X.K X.mg) B (op2 g fa fb) σ H Q) :
    lift X W (relD X.K X.mg) B fa σ H fun x H1 => lift X W (relD X.K X.mg) B fb σ H1 fun y H2 => rD X g x y H2 Q := by
  obtain ⟨G, ρ, r, h⟩ := h
  refine lift.next (rel := relD X.K X.mg) (g := fun x ρ => (fb ρ).bind fun y => ofO (g x y)) later_D r h fun d x G1 H1 r1 s1 q1 w1 => ?_
  refine lift.next (rel := relD X.K X.mg) (g := fun y _ => ofO (g d y)) later_D r1 w1 fun e y G2 H2 r2 s2 q2 w2 => ?_
  cases hg : g d e with
  | none => rw [hg] at w2; exact w2.elim
  | some c =>
    rw [hg] at w2
    exact ⟨G2, d, e, c, r2.gh, R.mono s2.gg q1, q2, hg, w2⟩
theorem EF.bin {op : Operator} {g : D → D → Option D} (ho : OpD X (binaryOp op) g) (ha : EF X W a fa) (hb : EF X W b fb) : EF X W (.BinOp a op b pos) (op2 g fa fb) := ⟨fun B => PE.mono (pe_op ho (ha.run B) (hb.run B)) fun σ H Q h => bin_next h⟩
theorem EF.un {op : UnaryOp} {g : D → Option D} (ho : UnD X (unaryOp op) g) (ha : EF X W a fa) : EF X W (.UnaryOp op a pos) (op1 g fa) := ⟨fun B => PE.mono (pe_un ho (ha.run B)) fun σ H Q ⟨G, ρ, r, h⟩ =>
  lift.next (rel := relD X.K X.mg) (g := fun x _ => ofO (g x)) later_D r h fun d x G1 H1 r1 s1 q1 w1 => by
    cases hg : g d with
    | none => rw [hg] at w1; exact w1.elim
    | some c => rw [hg] at w1; exact ⟨G1, d, c, r1.gh, q1, hg, w1⟩⟩
theorem pc_op {op : CmpOp} {r : R2} {ta tb : TE} (ho : OpR X (compareOp op) r) (ha : PE X a ta) (hb : PE X b tb) : PC X op a b (tOp r ta tb) := ⟨fun pins s σ H Q I h =>
  binT ha hb I h fun v u s2 x y H2 I2 rx ry q => ho pins s2 σ H2 x y v u Q I2 rx ry q⟩
theorem EC.op {op : CmpOp} {g : D → D → Option D} (ho : OpD X (compareOp op) g) (ha : EF X W a fa) (hb : EF X W b fb) : EC X W op a b (op2 g fa fb) := ⟨fun B => PC.mono (pc_op ho (ha.run B) (hb.run B)) fun σ H Q h => bin_next h⟩
theorem EC.isN {j pos'} (ha : EF X W a fa) : EC X W .Is a (.Constant .none j pos') (op1 isN fa) := ⟨fun B => PC.mono (pc_isN (ha.run B)) fun σ H Q ⟨G, ρ, r, h⟩ =>
  lift.next (rel := relD X.K X.mg) (g := fun x _ => ofO (FL.isN x)) later_D r h fun d x G1 H1 r1 s1 q1 w1 => by
    refine w1.ok (Stp.refl r1.gh) ?_
    cases d <;> first | (rw [show x = _ from q1]; rfl) | (rw [show x = _ from q1.1]; rfl) | (obtain ⟨_, _, rfl, _⟩ := q1; rfl) | (obtain ⟨_, _, _, _, rfl, _⟩ := q1; rfl) | (obtain ⟨_, rfl, _⟩ := q1; rfl)⟩
theorem EC.notN {j pos'} (ha : EF X W a fa) : EC X W .IsNot a (.Constant .none j pos') (op1 notN fa) := ⟨fun B => PC.mono (pc_notN (ha.run B)) fun σ H Q ⟨G, ρ, r, h⟩ =>
  lift.next (rel := relD X.K X.mg) (g := fun x _ => ofO (FL.notN x)) later_D r h fun d x G1 H1 r1 s1 q1 w1 => by
    refine w1.ok (Stp.refl r1.gh) ?_
    cases d <;> first | (rw [show x = _ from q1]; rfl) | (rw [show x = _ from q1.1]; rfl) | (obtain ⟨_, _, rfl, _⟩ := q1; rfl) | (obtain ⟨_, _, _, _, rfl, _⟩ := q1; rfl) | (obtain ⟨_, rfl, _⟩ := q1; rfl)⟩
/-- a < b < c -/
def chD (g g' : D → D → Option D) (fa fb fc : En → Res D) (ρ : En) : Res D := (fa ρ).bind fun x => (fb ρ).bind fun y => (ofO (g x y)).bind fun z => (asB z).bind fun k => if k = true then (fc ρ).bind fun w => ofO (g' y w) else .ok (.bl false)
end
end FL
/-! The functional layer, part E: subscripts, in, len, slices, calls of built-ins, displays. -/
namespace FL
open PySem PySem.Spec PyProof.Rows L2
section
variable {X : Cx} {W : WW} {a b e : Expr} {es : List Expr} {fa fb fc : En → Res D} {fs : En → Res (List D)} {pos : Pos}
theorem Rs.atI {K : PySem.W.Frag} {mg : Str → Option Value} {G : Hp} {ds : List D} {vs : List V} {i : Int} {d : D} (h : Rs K mg G ds vs) (q : L2.atI ds i = some d) : ∃ v, L2.atI vs i = some v ∧ R K mg G d v := by
  unfold L2.atI at q ⊢
  rw [h.len]
  cases e : ixN ds.length i with
  | none => rw [e] at q; cases q
  | some j =>
    rw [e] at q
    exact h.get (by simpa using q)
theorem atI_map {α β : Type} (g : α → β) (xs : List α) (i : Int) : L2.atI (xs.map g) i = (L2.atI xs i).map g := by
  unfold L2.atI
  rw [List.length_map]
  cases ixN xs.length i with
  | none => rfl
  | some j => simp
theorem keyOf_ok {K : PySem.W.Frag} {mg : Str → Option Value} {G : Hp} {d : D} {x : V} {k : Key} (h : R K mg G d x) (q : keyOf d = some k) : x = kV k := by
  unfold keyOf at q
  split at q
  · cases q; exact h
  · cases q; exact h.1
  · cases q
theorem keysOf_ok {K : PySem.W.Frag} {mg : Str → Option Value} {G : Hp} : ∀ {ds : List D} {xs : List V} {ks : List Key}, Rs K mg G ds xs → keysOf ds = some ks → xs = ks.map kV
  | [], _, _, h, q => by cases q; exact h
  | d :: ds, _, ks, ⟨v, r, e, h, t⟩, q => by
    unfold keysOf at q
    cases e1 : keyOf d with
    | none => rw [e1] at q; cases q
    | some k =>
      cases e2 : keysOf ds with
      | none => rw [e1, e2] at q; cases q
      | some l =>
        rw [e1, e2] at q; cases q
        rw [e, keyOf_ok h e1, keysOf_ok t e2]; rfl
theorem look_ok {K : PySem.W.Frag} {mg : Str → Option Value} {G : Hp} {κ : Type} [DecidableEq κ] (k : κ) : ∀ {ks : List κ} {ds : List D} {vs : List V}, Rs K mg G ds vs → ks.length = ds.length →
    (look ks ds k = none ∧ valV (ks.zip vs) k = none) ∨ ∃ d v, look ks ds k = some d ∧ valV (ks.zip vs) k = some v ∧ R K mg G d v
  | [], ds, vs, h, l => .inl ⟨by unfold look; rfl, rfl⟩
  | q :: ks, [], _, h, l => by cases l
  | q :: ks, d :: ds, _, ⟨v, r, e, h, t⟩, l => by
    subst e
    rw [List.zip_cons_cons]
    by_cases e : q = k
    · exact .inr ⟨d, v, by unfold look; rw [if_pos e], valV_pos (p := (q, v)) e, h⟩
    · have e1 : look (q :: ks) (d :: ds) k = look ks ds k := by rw [look, if_neg e]
      rw [e1, valV_neg (p := (q, v)) e]
      exact look_ok k t (by simpa using l)
theorem R.dK {K : PySem.W.Frag} {mg : Str → Option Value} {G : Hp} {ks : List Key} {ds : List D} {x : V} (h : R K mg G (.dK ks ds) x) : ∃ a vs, x = .ref a ∧ ks.length = ds.length ∧ Rd G a (.dK (ks.zip vs)) ∧ Rs K mg G ds vs := h
theorem R.dT {K : PySem.W.Frag} {mg : Str → Option Value} {G : Hp} {ks : List (List Key)} {ds : List D} {x : V} (h : R K mg G (.dT ks ds) x) : ∃ a vs, x = .ref a ∧ ks.length = ds.length ∧ Rd G a (.dT (ks.zip vs)) ∧ Rs K mg G ds vs := h
/-- what a dict holds at a key -/
theorem dget_K {K : PySem.W.Frag} {mg : Str → Option Value} {G H : Hp} (gh : Same G H) {ks : List Key} {ds : List D} {d : D} {k : Key} {x y : V} (h : R K mg G (.dK ks ds) x) (h2 : R K mg G d y) (hk : keyOf d = some k) :
    ∃ a, x = .ref a ∧ ((look ks ds k = none ∧ DGet H a y none) ∨ ∃ c v, look ks ds k = some c ∧ DGet H a y (some v) ∧ R K mg G c v) := by
  obtain ⟨a, vs, rfl, l, e, q⟩ := h.dK
  refine ⟨a, rfl, ?_⟩
  rcases look_ok k q l with ⟨h1, h3⟩ | ⟨c, v, h1, h3, h4⟩
  · exact .inl ⟨h1, .inl ⟨_, k, Rd.mono gh e, keyOf_ok h2 hk, h3.symm⟩⟩
  · exact .inr ⟨c, v, h1, .inl ⟨_, k, Rd.mono gh e, keyOf_ok h2 hk, h3.symm⟩, h4⟩
theorem dget_T {K : PySem.W.Frag} {mg : Str → Option Value} {G H : Hp} (gh : Same G H) {ks : List (List Key)} {ds : List D} {d : List D} {k : List Key} {x y : V} (h : R K mg G (.dT ks ds) x) (h2 : R K mg G (.tup d) y) (hk : keysOf d = some k) :
    ∃ a, x = .ref a ∧ ((look ks ds k = none ∧ DGet H a y none) ∨ ∃ c v, look ks ds k = some c ∧ DGet H a y (some v) ∧ R K mg G c v) := by
  obtain ⟨a, vs, rfl, l, e, q⟩ := h.dT
  obtain ⟨b, us, rfl, _, e2, q2⟩ := h2.tup
  have eu := keysOf_ok q2 hk
  refine ⟨a, rfl, ?_⟩
  rcases look_ok k q l with ⟨h1, h3⟩ | ⟨c, v, h1, h3, h4⟩
  · exact .inl ⟨h1, .inr ⟨_, k, b, Rd.mono gh e, rfl, by rw [← eu]; exact gh _ _ e2, h3.symm⟩⟩
  · exact .inr ⟨c, v, h1, .inr ⟨_, k, b, Rd.mono gh e, rfl, by rw [← eu]; exact gh _ _ e2, h3.symm⟩, h4⟩
theorem ix_dict (hu : X.A.units + 64 < cLine) : IxR X (fun x y H Q => ∃ a v, x = .ref a ∧ DGet H a y (some v) ∧ Q v H) := by
  rintro value slice pins s σ H x y v u Q I rx ry ⟨a, z, rfl, g, q⟩ hs
  obtain rfl : v = Value.ref a := rx
  have hT := dict_typeIs I g
  unfold subscriptTail
  refine wpAny_bind ?_
  rw [getitemInPython_of_ne hT.not_modules]
  refine wpAny_bind (wpAny_specialOf hT PySem.F.slot_dict_getitem.lookup ?_)
  have fin : wpAny (model X.prog X.w) X.A (subscripted slice false (.ref a) u) (fun r s₃ => wpAny (model X.prog X.w) X.A (letTemporaryGo value (.ref a) r >>= fun _ => pure r) (EP X pins σ Q) X.xe s₃) X.xe s := by
    rw [hs]
    exact wpAny_operating (d_getItem (by omega) I g ry fun w' s3 I3 rw' => wpAny_bind (wpAny_letTemporaryGo (wpAny_pure ⟨z, H, I3, rw', q⟩)))
  first
    | exact wpAny_pure (wpAny_bind fin)
    | exact wpAny_bind (wpAny_pure (wpAny_bind fin))
    | exact wpAny_bind fin
theorem ix_ok (hu : X.A.units + 64 < cLine) : IxR X (rD X ixD) := by
  rintro value slice pins s σ H x y v u Q I rx ry ⟨G, d, e, c, gh, r1, r2, hg, k⟩ hs
  unfold ixD at hg
  split at hg
  · obtain ⟨p, vs, rfl, _, e1, q1⟩ := r1.lst
    obtain ⟨w, h1, h2⟩ := q1.atI hg
    exact ix_list value slice pins s σ H _ y v u Q I rx ry ⟨p, vs, _, w, rfl, r2, SqL.of (gh _ _ e1), h1, k _ _ _ (Stp.refl gh) h2⟩ hs
  · obtain ⟨p, vs, rfl, _, e1, q1⟩ := r1.tup
    obtain ⟨w, h1, h2⟩ := q1.atI hg
    exact ix_tup value slice pins s σ H _ y v u Q I rx ry ⟨p, vs, _, w, rfl, r2, SqT.of (gh _ _ e1), h1, k _ _ _ (Stp.refl gh) h2⟩ hs
  · rename_i z i
    obtain ⟨rfl, z1, z2⟩ := r1
    obtain ⟨n, h1, rfl⟩ := Option.map_eq_some_iff.mp hg
    obtain ⟨j, _, h2, _⟩ := atI_get h1
    exact ix_str value slice pins s σ H _ y v u Q I rx ry ⟨z, i, n, rfl, r2, z1, h1, k _ _ _ (Stp.refl gh) ⟨rfl, sz_le (by show 1 ≤ _; decide), strOk_one z2 (List.mem_of_getElem? h2)⟩⟩ hs
  · rename_i ns i
    obtain ⟨a, rfl, h⟩ := r1
    obtain ⟨n, h1, rfl⟩ := Option.map_eq_some_iff.mp hg
    exact ix_list value slice pins s σ H _ y v u Q I rx ry ⟨a, ns.map V.int, i, .int n, rfl, r2, gh.seq h, by rw [atI_map, h1]; rfl, k _ _ _ (Stp.refl gh) rfl⟩ hs
  · rename_i d2 ks xs
    cases hk : keyOf e with
    | none => rw [hk] at hg; cases hg
    | some q =>
      rw [hk] at hg
      obtain ⟨a, rfl, h | ⟨c', w, h1, h2, h3⟩⟩ := dget_K gh r1 r2 hk
      · rw [Option.bind_some, h.1] at hg; cases hg
      · rw [Option.bind_some, h1] at hg; cases hg
        exact ix_dict hu value slice pins s σ H _ y v u Q I rx ry ⟨a, w, rfl, h2, k _ _ _ (Stp.refl gh) h3⟩ hs
  · rename_i ks xs d2
    cases hk : keysOf d2 with
    | none => rw [hk] at hg; cases hg
    | some q =>
      rw [hk] at hg
      obtain ⟨a, rfl, h | ⟨c', w, h1, h2, h3⟩⟩ := dget_T gh r1 r2 hk
      · rw [Option.bind_some, h.1] at hg; cases hg
      · rw [Option.bind_some, h1] at hg; cases hg
        exact ix_dict hu value slice pins s σ H _ y v u Q I rx ry ⟨a, w, rfl, h2, k _ _ _ (Stp.refl gh) h3⟩ hs
  · cases hg
theorem EF.ix (hu : X.A.units + 64 < cLine) (ha : EF X W a fa) (hb : EF X W b fb) (hs : PlainIx b := by intro _ _; rfl) : EF X W (.Subscript a b pos) (op2 ixD fa fb) := ⟨fun B => PE.mono (pe_ix (ix_ok hu) (ha.run B) (hb.run B) hs) fun σ H Q h => bin_next h⟩
/-! chains -/
theorem ch_next {g g' : D → D → Option D} {B : Bs} {σ : L2.St} {H : Hp} {Q : VK} (h : lift X W (relD X.K X.mg) B (chD g g' fa fb fc) σ H Q) :
    tChain (rD X g) (rD X g') (lift X W (relD X.K X.mg) B fa) (lift X W (relD X.K X.mg) B fb) (lift X W (relD X.K X.mg) B fc) σ H Q := by
  obtain ⟨G, ρ, r, h⟩ := h
  refine lift.next (rel := relD X.K X.mg) (g := fun x ρ => (fb ρ).bind fun y => (ofO (g x y)).bind fun z => (asB z).bind fun k => if k = true then (fc ρ).bind fun w => ofO (g' y w) else .ok (.bl false)) later_D r h fun d x G1 H1 r1 s1 q1 w1 => ?_
  refine lift.next (rel := relD X.K X.mg) (g := fun y ρ => (ofO (g d y)).bind fun z => (asB z).bind fun k => if k = true then (fc ρ).bind fun w => ofO (g' y w) else .ok (.bl false)) later_D r1 w1 fun e y G2 H2 r2 s2 q2 w2 => ?_
  cases hg : g d e with
  | none => rw [hg] at w2; exact w2.elim
  | some c =>
    rw [hg, ofO_some, Res.bind_ok] at w2
    refine ⟨G2, d, e, c, r2.gh, R.mono s2.gg q1, q2, hg, fun v G3 H3 s3 q3 => ?_⟩
    cases c <;> first | exact w2.elim | skip
    rename_i k
    refine ⟨k, q3, ?_⟩
    have w3 : Wr X.K X.mg (relD X.K X.mg) W σ G2 H2 (if k = true then (fc ρ).bind fun w => ofO (g' e w) else .ok (.bl false)) fun _ v _ H' => Q v H' := w2
    cases k with
    | false => exact w3.ok s3 rfl
    | true =>
      rw [if_pos rfl] at w3 ⊢
      refine ⟨G3, ρ, r2.step s3, ?_⟩
      have w4 : Wr X.K X.mg (relD X.K X.mg) W σ G3 H3 ((fc ρ).bind fun w => ofO (g' e w)) fun _ v _ H' => Q v H' := by
        cases e9 : (fc ρ).bind fun w => ofO (g' e w) with
        | ok t => rw [e9] at w3; exact fun b G' H' s q => w3 b G' H' (s3.trans s) q
        | ex t => rw [e9] at w3; exact ⟨w3.1, fun G' H' cls dd s q => w3.2 G' H' cls dd (s3.trans s) q⟩
        | bad => rw [e9] at w3; exact w3
      refine (Wr.bind (rel := relD X.K X.mg) (g := fun w => ofO (g' e w)) later_D w4).mono fun f z G4 H4 ⟨s4, q4, w5⟩ => ?_
      cases hg2 : g' e f with
      | none => rw [hg2] at w5; exact w5.elim
      | some c2 =>
        rw [hg2] at w5
        exact ⟨G4, e, f, c2, s4.gh, R.mono (s3.gg.trans s4.gg) q2, q4, hg2, w5⟩
theorem EF.ch {o1 o2 : CmpOp} {g g' : D → D → Option D} {c : Expr} (h1 : OpD X (compareOp o1) g) (h2 : OpD X (compareOp o2) g') (ha : EF X W a fa) (hb : EF X W b fb) (hc : EF X W c fc) (hm : lastMarks [o1, o2] [b, c] = false := by with_unfolding_all rfl) :
    EF X W (.Compare a [o1, o2] [b, c] pos) (chD g g' fa fb fc) := ⟨fun B => PE.mono (pe_chain h1 h2 (ha.run B) (hb.run B) (hc.run B) hm) fun σ H Q h => ch_next h⟩
theorem ET.ch {o1 o2 : CmpOp} {g g' : D → D → Option D} {c : Expr} (h1 : OpD X (compareOp o1) g) (h2 : OpD X (compareOp o2) g') (ha : EF X W a fa) (hb : EF X W b fb) (hc : EF X W c fc) (hm : lastMarks [o1, o2] [b, c] = false := by with_unfolding_all rfl) :
    ET X W (.Compare a [o1, o2] [b, c] pos) (fun ρ => (chD g g' fa fb fc ρ).bind asB) := ⟨fun B => PT.mono (pt_chain h1 h2 (ha.run B) (hb.run B) (hc.run B) hm) fun σ H Q ⟨G, ρ, r, h⟩ => by
  refine ch_next (Q := fun x H' => ∃ k, x = .bl k ∧ Q k H') ⟨G, ρ, r, ?_⟩
  refine (Wr.bind (rel := relD X.K X.mg) (g := asB) later_B h).mono fun a b G1 H1 ⟨s, q, w⟩ => ?_
  obtain ⟨b, e, w⟩ := asB_ok s.gh q w
  exact ⟨b, e, w⟩⟩
/-! in -/
theorem flat_V {K : PySem.W.Frag} {mg : Str → Option Value} {G : Hp} {d : D} {x : V} (f : flat d = true) (h : R K mg G d x) : flatV x = true := by
  cases d <;> first | cases f | skip
  · rw [show x = .non from h]; rfl
  · rw [show x = .bl _ from h]; rfl
  · rw [show x = .int _ from h]; rfl
  · rw [show x = .str _ from h.1]; rfl
theorem eqV_eqv {K : PySem.W.Frag} {mg : Str → Option Value} {G : Hp} {d e : D} {x y : V} (f : flat d = true) (f2 : flat e = true) (h : R K mg G d x) (h2 : R K mg G e y) : eqV x y = eqv d e := by
  cases d <;> first | cases f | skip
  all_goals cases e <;> first | cases f2 | skip
  all_goals
    first
      | (rw [show x = _ from h, show y = _ from h2]; simp [eqV, eqv])
      | (rw [show x = _ from h.1, show y = _ from h2]; simp [eqV, eqv])
      | (rw [show x = _ from h, show y = _ from h2.1]; simp [eqV, eqv])
      | (rw [show x = _ from h.1, show y = _ from h2.1]; simp [eqV, eqv])
theorem inV_ok {K : PySem.W.Frag} {mg : Str → Option Value} {G : Hp} {d : D} {x : V} (f : flat d = true) (h : R K mg G d x) : ∀ {ds : List D} {vs : List V}, ds.all flat = true → Rs K mg G ds vs → vs.all flatV = true ∧ inV x vs = ds.any fun y => eqv y d
  | [], vs, _, q => by rw [show vs = [] from q]; exact ⟨rfl, rfl⟩
  | e :: ds, _, g, ⟨v, r, eq, q, t⟩ => by
    subst eq
    rw [List.all_cons, Bool.and_eq_true] at g
    obtain ⟨a, b⟩ := inV_ok f h g.2 t
    unfold inV at b ⊢
    rw [List.all_cons, List.any_cons, List.any_cons, b, flat_V g.1 q, a, eqV_eqv g.1 f q h]
    exact ⟨rfl, rfl⟩
theorem in_gen {op : CmpOp} {neg : Bool} (hseq : OpR X (compareOp op) (rIn X.K neg)) (hstr : OpR X (compareOp op) (fun x y H Q => ∃ (c : Nat) (z : Str), x = .str ⟨#[c]⟩ ∧ y = .str z ∧ Q (.bl (if neg then !decide (c ∈ z.cps.toList) else decide (c ∈ z.cps.toList))) H))
    (hd : OpR X (compareOp op) (fun x y H Q => ∃ a o, y = .ref a ∧ DGet H a x o ∧ Q (.bl (if neg then !o.isSome else o.isSome)) H)) : OpD X (compareOp op) (fun x y => (inD x y).map fun b => .bl (if neg then !b else b)) := by
  rintro pins s σ H x y v u Q I rx ry ⟨G, d, e, c, gh, r1, r2, hg, k⟩
  obtain ⟨b, hb, rfl⟩ := Option.map_eq_some_iff.mp hg
  clear hg
  have hg := hb
  clear hb
  have fin : Q (.bl (if neg then !b else b)) H := k _ _ _ (Stp.refl gh) rfl
  unfold inD at hg
  split at hg
  · split at hg
    · rename_i ds p; cases hg
      rw [Bool.and_eq_true] at p
      obtain ⟨q, vs, rfl, _, e1, q1⟩ := r2.lst
      obtain ⟨h1, h2⟩ := inV_ok p.1 r1 p.2 q1
      exact hseq pins s σ H x _ v u Q I rx ry ⟨q, vs, rfl, .inl (SqL.of (gh _ _ e1)), flat_V p.1 r1, h1, by rw [h2]; exact fin⟩
    · cases hg
  · split at hg
    · rename_i ds p; cases hg
      rw [Bool.and_eq_true] at p
      obtain ⟨q, vs, rfl, _, e1, q1⟩ := r2.tup
      obtain ⟨h1, h2⟩ := inV_ok p.1 r1 p.2 q1
      exact hseq pins s σ H x _ v u Q I rx ry ⟨q, vs, rfl, .inr (SqT.of (gh _ _ e1)), flat_V p.1 r1, h1, by rw [h2]; exact fin⟩
    · cases hg
  · split at hg
    · rename_i a z hs; cases hg
      have ea : a = ⟨#[a.cps.getD 0 0]⟩ := by
        obtain ⟨cps⟩ := a
        obtain ⟨l⟩ := cps
        match l, hs with
        | [n], _ => rfl
      exact hstr pins s σ H x y v u Q I rx ry ⟨a.cps.getD 0 0, z, by rw [← ea]; exact r1.1, r2.1, fin⟩
    · cases hg
  · rename_i d2 ks xs
    cases hk : keyOf d with
    | none => rw [hk] at hg; cases hg
    | some q =>
      rw [hk] at hg; cases hg
      obtain ⟨a, rfl, h | ⟨c', w, h1, h2, h3⟩⟩ := dget_K gh r2 r1 hk
      · rw [h.1] at fin
        exact hd pins s σ H x _ v u Q I rx ry ⟨a, _, rfl, h.2, fin⟩
      · rw [h1] at fin
        exact hd pins s σ H x _ v u Q I rx ry ⟨a, _, rfl, h2, fin⟩
  · rename_i d2 ks xs
    cases hk : keysOf d2 with
    | none => rw [hk] at hg; cases hg
    | some q =>
      rw [hk] at hg; cases hg
      obtain ⟨a, rfl, h | ⟨c', w, h1, h2, h3⟩⟩ := dget_T gh r2 r1 hk
      · rw [h.1] at fin
        exact hd pins s σ H x _ v u Q I rx ry ⟨a, _, rfl, h.2, fin⟩
      · rw [h1] at fin
        exact hd pins s σ H x _ v u Q I rx ry ⟨a, _, rfl, h2, fin⟩
  · cases hg
theorem in_ok (hu : X.A.units + 64 < cLine) : OpD X (compareOp .In) inD1 := by
  have h := in_gen (X := X) (op := .In) (neg := false) op_in_seq op_in_sign (by
    rintro pins s σ H x y v u Q I rx ry ⟨a, o, rfl, g, q⟩
    obtain rfl : u = Value.ref a := ry
    exact d_in (by omega) I g rx fun s3 I3 => ⟨.bl o.isSome, H, I3, rfl, q⟩)
  exact h
theorem notIn_ok (hu : X.A.units + 64 < cLine) : OpD X (compareOp .NotIn) ninD1 := by
  have h := in_gen (X := X) (op := .NotIn) (neg := true) op_notIn_seq op_notIn_sign (by
    rintro pins s σ H x y v u Q I rx ry ⟨a, o, rfl, g, q⟩
    obtain rfl : u = Value.ref a := ry
    exact d_notIn (by omega) I g rx fun s3 I3 => ⟨.bl (!o.isSome), H, I3, rfl, q⟩)
  exact h
/-! calls of built-ins -/
def CallD (X : Cx) (f : Value) (g : List D → Option D) : Prop := CallR X f fun xs H Q => ∃ G ds c, Same G H ∧ Rs X.K X.mg G ds xs ∧ g ds = some c ∧ ∀ v G' H', Stp G H G' H' → R X.K X.mg G' c v → Q v H'
def CallO (X : Cx) (f : Value) (g : List D → Option OT) : Prop := CallR X f fun xs H Q => ∃ G ds c, Same G H ∧ Rs X.K X.mg G ds xs ∧ g ds = some c ∧ ∀ v G' H', Stp G H G' H' → relO X.K X.mg H G' H' c v → Q v H'
def cal {α : Type} (g : List D → Option α) (fs : En → Res (List D)) (ρ : En) : Res α := (fs ρ).bind fun xs => ofO (g xs)
section
variable {id T : String} {x : Str} {p : Pos} {g : List D → Option D} {go : List D → Option OT}
theorem cb_next {r : List V → Hp → VK → Prop} {B : Bs} {σ : L2.St} {H : Hp} {Q : VK} {α β : Type} {rel : Hp → Hp → Hp → α → V → Prop} (lt : Later rel) {g : List D → Option α} (hr : ∀ xs H Q G ds c, Same G H → Rs X.K X.mg G ds xs → g ds = some c → (∀ v G' H', Stp G H G' H' → rel H G' H' c v → Q v H') → r xs H Q)
    (h : lift X W rel B (cal g fs) σ H Q) : tCB r (lift X W (relL X.K X.mg) B fs) σ H Q := by
  obtain ⟨G, ρ, r, h⟩ := h
  refine lift.next (rel := relL X.K X.mg) (g := fun xs _ => ofO (g xs)) lt r h fun ds xs G1 H1 r1 s1 q1 w1 => ?_
  cases hg : g ds with
  | none => rw [hg] at w1; exact w1.elim
  | some c =>
    rw [hg] at w1
    exact hr xs H1 Q G1 ds c r1.gh q1 hg w1
theorem EF.callB (hc : CallD X (.builtin id) g) (hm : X.mg x = none) (hv : bootBuiltins x = some (.builtin id)) (ha : EA X W (e :: es) fs) (hg : Gl X x := by rfl) (hn : x ≠ "__name__" := by decide) (hdb : (x == ("__debug__" : Str)) = false := by decide)
    (he : starEach (e :: es) X.env = (false, eval e X.env) :: starEach es X.env := by rfl) (hpl : (backTo pos (starEach es X.env)).any (·.1) = false := by rfl) : EF X W (.Call (.Name x p) (e :: es) [] pos) (cal g fs) :=
  ⟨fun B => PE.mono (pe_callB hc hg hm hv (ha.run B) hn hdb he hpl) fun σ H Q h => cb_next (β := V) later_D (fun xs H Q G ds c gh q hg k => ⟨G, ds, c, gh, q, hg, k⟩) h⟩
theorem EF.callT (hc : CallD X (.type T) g) (hm : X.mg x = none) (hv : bootBuiltins x = some (.type T)) (ha : EA X W (e :: es) fs) (hg : Gl X x := by rfl) (hn : x ≠ "__name__" := by decide) (hdb : (x == ("__debug__" : Str)) = false := by decide)
    (he : starEach (e :: es) X.env = (false, eval e X.env) :: starEach es X.env := by rfl) (hpl : (backTo pos (starEach es X.env)).any (·.1) = false := by rfl) : EF X W (.Call (.Name x p) (e :: es) [] pos) (cal g fs) :=
  ⟨fun B => PE.mono (pe_callTy hc hg hm hv (ha.run B) hn hdb he hpl) fun σ H Q h => cb_next (β := V) later_D (fun xs H Q G ds c gh q hg k => ⟨G, ds, c, gh, q, hg, k⟩) h⟩
theorem EO.callB (hc : CallO X (.builtin id) go) (hm : X.mg x = none) (hv : bootBuiltins x = some (.builtin id)) (ha : EA X W (e :: es) fs) (hg : Gl X x := by rfl) (hn : x ≠ "__name__" := by decide) (hdb : (x == ("__debug__" : Str)) = false := by decide)
    (he : starEach (e :: es) X.env = (false, eval e X.env) :: starEach es X.env := by rfl) (hpl : (backTo pos (starEach es X.env)).any (·.1) = false := by rfl) : EO X W (.Call (.Name x p) (e :: es) [] pos) (cal go fs) :=
  ⟨fun B => PE.mono (pe_callB hc hg hm hv (ha.run B) hn hdb he hpl) fun σ H Q h => cb_next (β := V) later_O (fun xs H Q G ds c gh q hg k => ⟨G, ds, c, gh, q, hg, k⟩) h⟩
theorem EO.callT (hc : CallO X (.type T) go) (hm : X.mg x = none) (hv : bootBuiltins x = some (.type T)) (ha : EA X W (e :: es) fs) (hg : Gl X x := by rfl) (hn : x ≠ "__name__" := by decide) (hdb : (x == ("__debug__" : Str)) = false := by decide)
    (he : starEach (e :: es) X.env = (false, eval e X.env) :: starEach es X.env := by rfl) (hpl : (backTo pos (starEach es X.env)).any (·.1) = false := by rfl) : EO X W (.Call (.Name x p) (e :: es) [] pos) (cal go fs) :=
  ⟨fun B => PE.mono (pe_callTy hc hg hm hv (ha.run B) hn hdb he hpl) fun σ H Q h => cb_next (β := V) later_O (fun xs H Q G ds c gh q hg k => ⟨G, ds, c, gh, q, hg, k⟩) h⟩
end
def lenL : List D → Option D
  | [d] => lenD d
  | _ => none
theorem Rs.one {K : PySem.W.Frag} {mg : Str → Option Value} {G : Hp} {d : D} {vs : List V} (h : Rs K mg G [d] vs) : ∃ v, vs = [v] ∧ R K mg G d v := by
  obtain ⟨v, r, e, q, t⟩ := h
  rw [show r = [] from t] at e
  exact ⟨v, e, q⟩
theorem Rs.two {K : PySem.W.Frag} {mg : Str → Option Value} {G : Hp} {d d2 : D} {vs : List V} (h : Rs K mg G [d, d2] vs) : ∃ v w, vs = [v, w] ∧ R K mg G d v ∧ R K mg G d2 w := by
  obtain ⟨v, r, e, q, t⟩ := h
  obtain ⟨w, rfl, q2⟩ := Rs.one t
  exact ⟨v, w, e, q, q2⟩
theorem len_ok : CallD X (.builtin "len") lenL := by
  rintro pins s σ H xs us Q I r ⟨G, ds, c, gh, q, hg, k⟩
  unfold lenL at hg
  split at hg
  · rename_i d
    obtain ⟨v, rfl, r1⟩ := q.one
    unfold lenD at hg
    split at hg
    · cases hg
      obtain ⟨p, vs, rfl, _, e1, q1⟩ := r1.lst
      exact call_len_seq pins s σ H _ us Q I r ⟨p, vs, rfl, .inl (SqL.of (gh _ _ e1)), by rw [q1.len]; exact k _ _ _ (Stp.refl gh) rfl⟩
    · cases hg
      obtain ⟨p, vs, rfl, _, e1, q1⟩ := r1.tup
      exact call_len_seq pins s σ H _ us Q I r ⟨p, vs, rfl, .inr (SqT.of (gh _ _ e1)), by rw [q1.len]; exact k _ _ _ (Stp.refl gh) rfl⟩
    · cases hg
      obtain ⟨rfl, z1, z2⟩ := r1
      exact call_len_str pins s σ H _ us Q I r ⟨_, rfl, z1, k _ _ _ (Stp.refl gh) rfl⟩
    · cases hg
      obtain ⟨a, rfl, h⟩ := r1
      exact call_len_seq pins s σ H _ us Q I r ⟨a, _, rfl, .inl (gh.seq h), by rw [List.length_map]; exact k _ _ _ (Stp.refl gh) rfl⟩
    · cases hg
      obtain ⟨a, vs, rfl, l, e1, q1⟩ := r1.dK
      obtain ⟨u, rfl, ru⟩ := vals1 r
      cases ru
      refine d_len I (Rd.mono gh e1) fun t s' I' => ⟨.int _, H, I', ⟨t, rfl⟩, ?_⟩
      rw [List.length_zip, q1.len, l, Nat.min_self, ← l]
      exact k _ _ _ (Stp.refl gh) rfl
    · cases hg
  · cases hg
end
end FL
/-! The functional layer, part F: displays, what is walked, comprehensions. -/
namespace FL
open PySem PySem.Spec PyProof.Rows L2
section
variable {K : PySem.W.Frag} {mg : Str → Option Value} {G H G' H' : Hp}
theorem ROs.dds : ∀ {ds : List D} {vs : List V}, Rs K mg G ds vs → ROs K mg G H (ds.map .d) vs []
  | [], _, h => ⟨h, rfl⟩
  | d :: ds, _, ⟨v, r, e, h, t⟩ => ⟨v, r, [], [], e, rfl, RO.dd h, ROs.dds t⟩
theorem ROs.append : ∀ {ts us : List OT} {vs ws : List V} {f1 f2 : List Addr}, ROs K mg G H ts vs f1 → ROs K mg G H us ws f2 → ROs K mg G H (ts ++ us) (vs ++ ws) (f1 ++ f2)
  | [], _, _, _, _, _, h, q => by rw [h.1, h.2]; exact q
  | t :: ts, _, _, _, _, _, ⟨v, r, g1, g2, e, e2, h, s⟩, q => by
    rw [e, e2, List.append_assoc]
    exact ⟨v, _, g1, _, rfl, rfl, h, ROs.append s q⟩
theorem ROs.one {t : OT} {v : V} {fp : List Addr} (h : RO K mg G H t v fp) : ROs K mg G H [t] [v] fp := ⟨v, [], fp, [], rfl, by rw [List.append_nil], h, rfl, rfl⟩
/-- a new list of frozen things, owned -/
theorem relO.newL {ds : List D} {vs : List V} {p : Addr} (g : Same G H) (n : H p = none) (l : ds.length ≤ sizeLine) (h : Rs K mg G ds vs) : relO K mg H G (upd H p (.lst vs)) (.lst (ds.map .d)) (.ref p) :=
  ⟨[p], ⟨p, vs, [], rfl, rfl, by rw [List.length_map]; exact l, upd_same, ROs.dds h⟩, by simp, fun q hq => by rw [List.mem_singleton.mp hq]; exact ⟨n, g.free n⟩⟩
end
section
variable {X : Cx} {W : WW} {a b e : Expr} {es : List Expr} {fa fb fc : En → Res D} {fs : En → Res (List D)} {pos : Pos}
/-! displays -/
def mkL (ds : List D) : Option D := if ds.length ≤ 16777216 then some (.lst ds) else none
def mkT (ds : List D) : Option D := if ds.length ≤ 16777216 then some (.tup ds) else none
def mkO (ds : List D) : Option OT := if ds.length ≤ 16777216 then some (.lst (ds.map .d)) else none
theorem EF.lst (ha : EA X W es fs) : EF X W (.List es pos) (cal mkL fs) := ⟨fun B => PE.mono (pe_lst (ha.run B)) fun σ H Q ⟨G, ρ, r, h⟩ =>
  lift.next (rel := relL X.K X.mg) (g := fun xs _ => ofO (mkL xs)) later_D r h fun ds xs G1 H1 r1 s1 q1 w1 => by
    unfold mkL at w1
    split at w1
    · rename_i hl
      exact ⟨by rw [q1.len]; exact sz_le hl, fun p hp => w1.ok (Stp.new r1.gh hp) (R.newL (r1.gh.free hp) (sz_le hl) q1)⟩
    · exact w1.elim⟩
theorem EF.tup {n} (ha : EA X W es fs) : EF X W (.Tuple es n pos) (cal mkT fs) := ⟨fun B => PE.mono (pe_tup (ha.run B)) fun σ H Q ⟨G, ρ, r, h⟩ =>
  lift.next (rel := relL X.K X.mg) (g := fun xs _ => ofO (mkT xs)) later_D r h fun ds xs G1 H1 r1 s1 q1 w1 => by
    unfold mkT at w1
    split at w1
    · rename_i hl
      exact ⟨by rw [q1.len]; exact sz_le hl, fun p hp => w1.ok (Stp.new r1.gh hp) (R.newT (r1.gh.free hp) (sz_le hl) q1)⟩
    · exact w1.elim⟩
theorem EO.lst (ha : EA X W es fs) : EO X W (.List es pos) (cal mkO fs) := ⟨fun B => PE.mono (pe_lst (ha.run B)) fun σ H Q ⟨G, ρ, r, h⟩ =>
  lift.next (rel := relL X.K X.mg) (g := fun xs _ => ofO (mkO xs)) later_O r h fun ds xs G1 H1 r1 s1 q1 w1 => by
    unfold mkO at w1
    split at w1
    · rename_i hl
      exact ⟨by rw [q1.len]; exact sz_le hl, fun p hp => w1.ok (Stp.own r1.gh hp) (relO.newL r1.gh hp (sz_le hl) q1)⟩
    · exact w1.elim⟩
/-- {} -/
def emK (_ : En) : Res OT := .ok (.dK [] [])
def emT (_ : En) : Res OT := .ok (.dT [] [])
theorem EO.emK : EO X W (.Dict [] [] pos) emK := ⟨fun B => PE.mono pe_dnewK fun σ H Q ⟨G, ρ, r, h⟩ => fun p hp => h.ok (Stp.own r.gh hp) ⟨[p], ⟨p, [], [], rfl, rfl, rfl, upd_same, rfl, rfl⟩, by simp, fun q hq => by rw [List.mem_singleton.mp hq]; exact ⟨hp, r.gh.free hp⟩⟩⟩
theorem EO.emT : EO X W (.Dict [] [] pos) emT := ⟨fun B => PE.mono pe_dnewT fun σ H Q ⟨G, ρ, r, h⟩ => fun p hp => h.ok (Stp.own r.gh hp) ⟨[p], ⟨p, [], [], rfl, rfl, rfl, upd_same, rfl, rfl⟩, by simp, fun q hq => by rw [List.mem_singleton.mp hq]; exact ⟨hp, r.gh.free hp⟩⟩⟩
/-! slices -/
def cutL {α : Type} (xs : List α) (lo hi : Option Int) : List α := (xs.drop (HT.sIx xs.length 0 lo)).take (HT.sIx xs.length xs.length hi - HT.sIx xs.length 0 lo)
def noP (_ : En) : Res (Option Int) := .ok none
def asI : D → Res Int
  | .int i => .ok i
  | _ => .bad
def part (f : En → Res D) (ρ : En) : Res (Option Int) := (f ρ).bind fun d => (asI d).bind fun i => .ok (some i)
structure EP' (X : Cx) (W : WW) (o : Option Expr) (f : En → Res (Option Int)) : Prop where
  run : ∀ B, PO X o (lift X W (fun _ _ _ a b => b = a) B f)
theorem PO.mono {o : Option Expr} {t t' : TO} (h : PO X o t) (i : ∀ σ H Q, t' σ H Q → t σ H Q) : PO X o t' := by
  obtain ⟨h⟩ := h
  constructor
  intros
  apply h <;> first | assumption | (apply i; assumption)
theorem EP'.p0 : EP' X W none noP := ⟨fun B => PO.mono po_none fun σ H Q ⟨G, ρ, r, h⟩ => h.ok (Stp.refl r.gh) rfl⟩
theorem EP'.p1 (h : EF X W e fa) : EP' X W (some e) (part fa) := ⟨fun B => PO.mono (po_some (h.run B)) fun σ H Q ⟨G, ρ, r, h⟩ =>
  lift.next (rel := relD X.K X.mg) (g := fun d _ => (asI d).bind fun i => .ok (some i)) (fun _ _ _ _ _ _ _ h => h) r h fun d x G1 H1 r1 s1 q1 w1 => by
    cases d <;> first | exact w1.elim | skip
    exact ⟨_, q1, Wr.ok (rel := fun _ _ _ a b => b = a) (k := fun _ v _ H' => Q v H') w1 (Stp.refl r1.gh) rfl⟩⟩
def slD (d : D) (lo hi : Option Int) : Option D := match d with
  | .lst xs => some (.lst (cutL xs lo hi))
  | .str z => some (.str (cutS z lo hi))
  | .tup xs => if HT.sIx xs.length 0 lo = 0 ∧ HT.sIx xs.length xs.length hi = xs.length then none else some (.tup (cutL xs lo hi))
  | _ => none
def sli (fa : En → Res D) (fl fh : En → Res (Option Int)) (ρ : En) : Res D := (fa ρ).bind fun d => (fl ρ).bind fun lo => (fh ρ).bind fun hi => ofO (slD d lo hi)
theorem Rs.cut {K : PySem.W.Frag} {mg : Str → Option Value} {G : Hp} {ds : List D} {vs : List V} {lo hi : Option Int} (h : Rs K mg G ds vs) : Rs K mg G (cutL ds lo hi) (cutV vs lo hi) := by
  unfold cutL cutV
  rw [h.len]
  exact (h.drop _).take _
theorem cutL_length {α : Type} (xs : List α) (lo hi : Option Int) : (cutL xs lo hi).length ≤ xs.length := by
  unfold cutL
  rw [List.length_take, List.length_drop]
  omega
theorem strOk_cut {z : Str} {lo hi : Option Int} (h : PyData.strOk z = true) : PyData.strOk (cutS z lo hi) = true := by
  unfold PyData.strOk cutS at *
  rw [← Array.all_toList] at *
  rw [List.toList_toArray]
  exact List.all_eq_true.mpr fun c hc => List.all_eq_true.mp h c (List.mem_of_mem_drop (List.mem_of_mem_take hc))
theorem sl_ok : SlR X (fun x lo hi H Q => ∃ G d c, Same G H ∧ R X.K X.mg G d x ∧ slD d lo hi = some c ∧ ∀ v G' H', Stp G H G' H' → R X.K X.mg G' c v → Q v H') := by
  have h := (sl_list (X := X)).or (sl_str.or sl_tup)
  intro pins s σ H x v vl vu lo hi sl Q I rx hs pl pu ⟨G, d, c, gh, r, hg, k⟩
  refine h pins s σ H x v vl vu lo hi sl Q I rx hs pl pu ?_
  unfold slD at hg
  split at hg
  · cases hg
    obtain ⟨p, vs, rfl, l, e1, q1⟩ := r.lst
    exact .inl ⟨p, vs, rfl, SqL.of (gh _ _ e1), fun q hq => k _ _ _ (Stp.new gh hq) (R.newL (gh.free hq) (Nat.le_trans (cutL_length _ _ _) l) q1.cut)⟩
  · cases hg
    obtain ⟨rfl, z1, z2⟩ := r
    exact .inr (.inl ⟨_, rfl, z1, k _ _ _ (Stp.refl gh) ⟨rfl, Nat.le_trans (cutS_length _ _ _) z1, strOk_cut z2⟩⟩)
  · split at hg
    · cases hg
    · rename_i hn; cases hg
      obtain ⟨p, vs, rfl, l, e1, q1⟩ := r.tup
      exact .inr (.inr ⟨p, vs, rfl, SqT.of (gh _ _ e1), by rw [q1.len]; exact hn, fun q hq => k _ _ _ (Stp.new gh hq) (R.newT (gh.free hq) (Nat.le_trans (cutL_length _ _ _) l) q1.cut)⟩)
  · cases hg
theorem EF.sli {lo hi : Option Expr} {p2 : Pos} {fl fh : En → Res (Option Int)} (ha : EF X W a fa) (hl : EP' X W lo fl) (hh : EP' X W hi fh) : EF X W (.Subscript a (.Slice lo hi none p2) pos) (sli fa fl fh) := ⟨fun B => PE.mono (pe_slice sl_ok (ha.run B) (hl.run B) (hh.run B)) fun σ H Q ⟨G, ρ, r, h⟩ =>
  lift.next (rel := relD X.K X.mg) (g := fun d ρ => (fl ρ).bind fun lo => (fh ρ).bind fun hi => ofO (slD d lo hi)) later_D r h fun d x G1 H1 r1 s1 q1 w1 =>
    lift.next (rel := fun _ _ _ a b => b = a) (g := fun lo ρ => (fh ρ).bind fun hi => ofO (slD d lo hi)) later_D r1 w1 fun lo lo' G2 H2 r2 s2 q2 w2 =>
      lift.next (rel := fun _ _ _ a b => b = a) (g := fun hi _ => ofO (slD d lo hi)) later_D r2 w2 fun hi hi' G3 H3 r3 s3 q3 w3 => by
        cases q2; cases q3
        cases hg : slD d lo hi with
        | none => rw [hg] at w3; exact w3.elim
        | some c => rw [hg] at w3; exact ⟨G3, d, c, r3.gh, R.mono (s2.gg.trans s3.gg) q1, hg, w3⟩⟩
end
/-! ### what is walked -/
def Walks (K : PySem.W.Frag) (mg : Str → Option Value) (J : It) (G1 : Hp) (ds : List D) : Prop := ∀ i G H, Same G1 G → Same G H → (ds.length ≤ i → J.stop i H) ∧ ∀ d, ds[i]? = some d → J.go i H ∧ ∀ x H', J.yld i H x H' → ∃ G', Stp G H G' H' ∧ R K mg G' d x
def relI (K : PySem.W.Frag) (mg : Str → Option Value) (_ G1 _ : Hp) (ds : List D) (J : It) : Prop := ds.length ≤ sizeLine ∧ Walks K mg J G1 ds
theorem later_I {K : PySem.W.Frag} {mg : Str → Option Value} : Later (relI K mg) := fun _ _ _ _ _ _ _ h => h
structure EI (X : Cx) (W : WW) (tg e : Expr) (f : En → Res (List D)) : Prop where
  run : ∀ B, PI X tg e (lift X W (relI X.K X.mg) B f)
theorem PI.mono {X : Cx} {tg e : Expr} {t t' : TI} (h : PI X tg e t) (i : ∀ σ H Q, t' σ H Q → t σ H Q) : PI X tg e t' := ⟨fun pins s σ H R I q => h.run pins s σ H R I (i _ _ _ q)⟩
section
variable {X : Cx} {W : WW} {tg a b e : Expr} {fa fb fc : En → Res D} {pos : Pos} {K : PySem.W.Frag} {mg : Str → Option Value}
def itL : D → Option (List D)
  | .lst xs => some xs
  | _ => none
def itT : D → Option (List D)
  | .tup xs => some xs
  | _ => none
def itS : D → Option (List D)
  | .str z => some (z.cps.toList.map fun c => .str ⟨#[c]⟩)
  | _ => none
def it1 (g : D → Option (List D)) (f : En → Res D) (ρ : En) : Res (List D) := (f ρ).bind fun d => ofO (g d)
theorem walks_list {G : Hp} {p : Addr} {ds : List D} {vs : List V} (e : G p = some (.lst vs)) (q : Rs K mg G ds vs) : Walks K mg (Itl K p) G ds := fun i G' H g gh => by
  have sq : SqL K H p vs := SqL.of (gh _ _ (g _ _ e))
  refine ⟨fun hl => ⟨vs, sq, by rw [q.len]; exact hl⟩, fun d hd => ?_⟩
  obtain ⟨v, h1, h2⟩ := q.get hd
  refine ⟨⟨vs, v, sq, h1⟩, fun x H' ⟨e1, y⟩ => ?_⟩
  subst e1
  have ex := y vs sq
  rw [h1] at ex
  cases ex
  exact ⟨G', Stp.refl gh, R.mono g h2⟩
theorem walks_tup {G : Hp} {p : Addr} {ds : List D} {vs : List V} (e : G p = some (.tup vs)) (q : Rs K mg G ds vs) : Walks K mg (Itt K p) G ds := fun i G' H g gh => by
  have sq : SqT K H p vs := SqT.of (gh _ _ (g _ _ e))
  refine ⟨fun hl => ⟨vs, sq, by rw [q.len]; exact hl⟩, fun d hd => ?_⟩
  obtain ⟨v, h1, h2⟩ := q.get hd
  refine ⟨⟨vs, v, sq, h1⟩, fun x H' ⟨e1, y⟩ => ?_⟩
  subst e1
  have ex := y vs sq
  rw [h1] at ex
  cases ex
  exact ⟨G', Stp.refl gh, R.mono g h2⟩
theorem EI.list (h : EF X W e fa) : EI X W tg e (it1 itL fa) := ⟨fun B => PI.mono (pi_list (h.run B)) fun σ H Q ⟨G, ρ, r, h⟩ =>
  lift.next (rel := relD X.K X.mg) (g := fun d _ => ofO (itL d)) later_I r h fun d x G1 H1 r1 s1 q1 w1 => by
    cases d <;> first | exact w1.elim | skip
    obtain ⟨p, vs, rfl, l, e1, q⟩ := q1.lst
    exact ⟨p, rfl, ⟨vs, SqL.of (r1.gh _ _ e1)⟩, Wr.ok w1 (Stp.refl r1.gh) ⟨l, walks_list e1 q⟩⟩⟩
theorem EI.tup (h : EF X W e fa) : EI X W tg e (it1 itT fa) := ⟨fun B => PI.mono (pi_tup (h.run B)) fun σ H Q ⟨G, ρ, r, h⟩ =>
  lift.next (rel := relD X.K X.mg) (g := fun d _ => ofO (itT d)) later_I r h fun d x G1 H1 r1 s1 q1 w1 => by
    cases d <;> first | exact w1.elim | skip
    obtain ⟨p, vs, rfl, l, e1, q⟩ := q1.tup
    exact ⟨p, rfl, ⟨vs, SqT.of (r1.gh _ _ e1)⟩, Wr.ok w1 (Stp.refl r1.gh) ⟨l, walks_tup e1 q⟩⟩⟩
theorem EI.str (h : EF X W e fa) : EI X W tg e (it1 itS fa) := ⟨fun B => PI.mono (pi_str (h.run B)) fun σ H Q ⟨G, ρ, r, h⟩ =>
  lift.next (rel := relD X.K X.mg) (g := fun d _ => ofO (itS d)) later_I r h fun d x G1 H1 r1 s1 q1 w1 => by
    cases d <;> first | exact w1.elim | skip
    rename_i z
    obtain ⟨rfl, z1, z2⟩ := q1
    refine ⟨z, rfl, Wr.ok w1 (Stp.refl r1.gh) ⟨by rw [List.length_map]; exact z1, fun i G H g gh => ⟨fun hl => ?_, fun d hd => ?_⟩⟩⟩
    · rw [List.length_map, Array.length_toList] at hl
      exact hl
    · rw [List.getElem?_map] at hd
      obtain ⟨n, h1, rfl⟩ := Option.map_eq_some_iff.mp hd
      have hi : i < z.cps.size := by
        have := (List.getElem?_eq_some_iff.mp h1).1
        rwa [Array.length_toList] at this
      refine ⟨hi, fun x H' ⟨e1, n', h2, e2⟩ => ?_⟩
      rw [← Array.getElem?_toList, h1] at h2
      cases h2
      subst e1 e2
      exact ⟨G, Stp.refl gh, rfl, sz_le (by show 1 ≤ _; decide), strOk_one z2 (List.mem_of_getElem? h1)⟩⟩
/-- the ints lo, lo + c, .. (n of them) -/
def rngL (lo c : Int) (n : Nat) : List D := (List.range n).map fun (i : Nat) => D.int (lo + (i : Int) * c)
def rg1 : List D → Option (List D)
  | [.int j] => if -4000000000 ≤ j ∧ j ≤ 16777216 then some (rngL 0 1 j.toNat) else none
  | _ => none
def rg2 : List D → Option (List D)
  | [.int i, .int j] => if -4000000000 ≤ i ∧ i ≤ 4000000000 ∧ j ≤ 4000000000 ∧ -4000000000 ≤ j ∧ j - i ≤ 16777216 then some (rngL i 1 (j - i).toNat) else none
  | _ => none
/-- range(i, j, -1) -/
def rg3 : List D → Option (List D)
  | [.int i, .int j, .int c] => if c = -1 ∧ -4000000000 ≤ i ∧ i ≤ 4000000000 ∧ j ≤ 4000000000 ∧ -4000000000 ≤ j ∧ i - j ≤ 16777216 then some (rngL i (-1) (i - j).toNat) else none
  | _ => none
def itA (g : List D → Option (List D)) (fs : En → Res (List D)) (ρ : En) : Res (List D) := (fs ρ).bind fun ds => ofO (g ds)
theorem walks_rng {G : Hp} {lo : Int} {n : Nat} : Walks K mg (Itr lo n) G (rngL lo 1 n) := fun i G' H g gh => by
  refine ⟨fun hl => ?_, fun d hd => ?_⟩
  · show n ≤ i
    rw [rngL, List.length_map, List.length_range] at hl
    exact hl
  · rw [rngL, List.getElem?_map] at hd
    obtain ⟨k, h1, rfl⟩ := Option.map_eq_some_iff.mp hd
    obtain ⟨h2, h3⟩ := List.getElem?_eq_some_iff.mp h1
    rw [List.getElem_range] at h3
    rw [List.length_range] at h2
    subst h3
    refine ⟨h2, fun x H' ⟨e1, e2⟩ => ?_⟩
    subst e1 e2
    exact ⟨G', Stp.refl gh, by show V.int _ = V.int _; rw [Int.mul_one]⟩
theorem walks_rngC {G : Hp} {lo c : Int} {n : Nat} : Walks K mg (Itc lo c n) G (rngL lo c n) := fun i G' H g gh => by
  refine ⟨fun hl => ?_, fun d hd => ?_⟩
  · show n ≤ i
    rw [rngL, List.length_map, List.length_range] at hl
    exact hl
  · rw [rngL, List.getElem?_map] at hd
    obtain ⟨k, h1, rfl⟩ := Option.map_eq_some_iff.mp hd
    obtain ⟨h2, h3⟩ := List.getElem?_eq_some_iff.mp h1
    rw [List.getElem_range] at h3
    rw [List.length_range] at h2
    subst h3
    refine ⟨h2, fun x H' ⟨e1, e2⟩ => ?_⟩
    subst e1 e2
    exact ⟨G', Stp.refl gh, rfl⟩
theorem rngL_len (lo c : Int) (n : Nat) : (rngL lo c n).length = n := by rw [rngL, List.length_map, List.length_range]
section
variable {fs : En → Res (List D)} {p : Pos}
theorem EI.rg1 (hm : X.mg "range" = none) (ha : EA X W [a] fs) (hg : Gl X "range" := by rfl) (hs : starEach [a] X.env = [(false, eval a X.env)] := by rfl) : EI X W tg (.Call (.Name "range" p) [a] [] pos) (itA rg1 fs) := ⟨fun B => PI.mono (pi_range1 hg hm (ha.run B) hs) fun σ H Q ⟨G, ρ, r, h⟩ =>
  lift.next (rel := relL X.K X.mg) (g := fun d _ => ofO (FL.rg1 d)) later_I r h fun ds xs G1 H1 r1 s1 q1 w1 => by
    unfold FL.rg1 at w1
    split at w1
    · split at w1
      · rename_i j hj
        obtain ⟨v, rfl, q⟩ := q1.one
        cases q
        exact ⟨j, rfl, by omega, by omega, Wr.ok w1 (Stp.refl r1.gh) ⟨by rw [rngL_len]; exact sz_le (by omega), walks_rng⟩⟩
      · exact w1.elim
    · exact w1.elim⟩
theorem EI.rg2 (hm : X.mg "range" = none) (ha : EA X W [a, b] fs) (hg : Gl X "range" := by rfl) (hs : starEach [a, b] X.env = [(false, eval a X.env), (false, eval b X.env)] := by rfl) (hs2 : starEach [b] X.env = [(false, eval b X.env)] := by rfl) :
    EI X W tg (.Call (.Name "range" p) [a, b] [] pos) (itA rg2 fs) := ⟨fun B => PI.mono (pi_range2 hg hm (ha.run B) hs hs2) fun σ H Q ⟨G, ρ, r, h⟩ =>
  lift.next (rel := relL X.K X.mg) (g := fun d _ => ofO (FL.rg2 d)) later_I r h fun ds xs G1 H1 r1 s1 q1 w1 => by
    unfold FL.rg2 at w1
    split at w1
    · split at w1
      · rename_i i j hj
        obtain ⟨v, w, rfl, q, q2⟩ := q1.two
        cases q; cases q2
        exact ⟨i, j, rfl, ⟨by omega, by omega, by omega, by omega⟩, Wr.ok w1 (Stp.refl r1.gh) ⟨by rw [rngL_len]; exact sz_le (by omega), walks_rng⟩⟩
      · exact w1.elim
    · exact w1.elim⟩
theorem EI.rg3 {c : Expr} (hm : X.mg "range" = none) (ha : EA X W [a, b, c] fs) (hg : Gl X "range" := by rfl) (hs : starEach [a, b, c] X.env = (false, eval a X.env) :: starEach [b, c] X.env := by rfl) (hpl : (backTo pos (starEach [b, c] X.env)).any (·.1) = false := by rfl) :
    EI X W tg (.Call (.Name "range" p) [a, b, c] [] pos) (itA rg3 fs) := ⟨fun B => PI.mono (pi_range3 hg hm (ha.run B) hs hpl) fun σ H Q ⟨G, ρ, r, h⟩ =>
  lift.next (rel := relL X.K X.mg) (g := fun d _ => ofO (FL.rg3 d)) later_I r h fun ds xs G1 H1 r1 s1 q1 w1 => by
    unfold FL.rg3 at w1
    split at w1
    · split at w1
      · rename_i i j c hj
        obtain ⟨v, r, e, q, t⟩ := q1
        obtain ⟨w, z, rfl, q2, q3⟩ := t.two
        cases q; cases q2; cases q3
        subst e
        rw [hj.1]
        exact ⟨i, j, -1, _, rfl, RgC.neg (by omega) (by omega) (by omega) (by omega), Wr.ok w1 (Stp.refl r1.gh) ⟨by rw [rngL_len]; exact sz_le (by omega), walks_rngC⟩⟩
      · exact w1.elim
    · exact w1.elim⟩
def enL (i : Nat) : List D → List D
  | [] => []
  | x :: xs => .tup [.int i, x] :: enL (i + 1) xs
theorem enL_len : ∀ (i : Nat) (xs : List D), (enL i xs).length = xs.length
  | _, [] => rfl
  | i, x :: xs => by rw [enL, List.length_cons, List.length_cons, enL_len]
theorem enL_get : ∀ (i j : Nat) (xs : List D), (enL i xs)[j]? = (xs[j]?).map fun x => .tup [.int ((i + j : Nat) : Int), x]
  | _, _, [] => by simp [enL]
  | i, 0, x :: xs => by simp [enL]
  | i, j + 1, x :: xs => by
    rw [enL, List.getElem?_cons_succ, List.getElem?_cons_succ, enL_get (i + 1) j xs]
    rw [show i + 1 + j = i + (j + 1) by omega]
def enI : List D → Option (List D)
  | [.lst xs] => some (enL 0 xs)
  | _ => none
theorem walks_enum {G : Hp} {p : Addr} {ds : List D} {vs : List V} (e : G p = some (.lst vs)) (q : Rs K mg G ds vs) : Walks K mg (Ite K p) G (enL 0 ds) := fun i G' H g gh => by
  have sq : SqL K H p vs := SqL.of (gh _ _ (g _ _ e))
  refine ⟨fun hl => ⟨vs, sq, by rw [q.len]; rwa [enL_len] at hl⟩, fun d hd => ?_⟩
  rw [enL_get] at hd
  obtain ⟨x, hx, rfl⟩ := Option.map_eq_some_iff.mp hd
  obtain ⟨v, h1, h2⟩ := q.get hx
  refine ⟨⟨vs, v, sq, h1⟩, fun x H' ⟨T, y, e1, nT, e2, hy⟩ => ?_⟩
  subst e1 e2
  have ex := hy vs sq
  rw [h1] at ex
  cases ex
  refine ⟨_, Stp.new gh nT, R.newT (gh.free nT) (sz_le (by show 2 ≤ _; decide)) ⟨_, _, rfl, ?_, _, _, rfl, R.mono g h2, rfl⟩⟩
  rw [Nat.zero_add]; rfl
theorem EI.enum {elts : List Expr} {kk : Nat} {tpos : Pos} (hm : X.mg "enumerate" = none) (ha : EA X W [a] fs) (hg : Gl X "enumerate" := by rfl) (hs : starEach [a] X.env = [(false, eval a X.env)] := by rfl) : EI X W (.Tuple elts kk tpos) (.Call (.Name "enumerate" p) [a] [] pos) (itA enI fs) := ⟨fun B => PI.mono (pi_enum hg hm (ha.run B) hs) fun σ H Q ⟨G, ρ, r, h⟩ =>
  lift.next (rel := relL X.K X.mg) (g := fun d _ => ofO (FL.enI d)) later_I r h fun ds xs G1 H1 r1 s1 q1 w1 => by
    unfold FL.enI at w1
    split at w1
    · obtain ⟨v, rfl, q⟩ := q1.one
      obtain ⟨p, vs, rfl, l, e1, q⟩ := q.lst
      exact ⟨p, vs, rfl, SqL.of (r1.gh _ _ e1), Wr.ok w1 (Stp.refl r1.gh) ⟨by rw [enL_len]; exact l, walks_enum e1 q⟩⟩
    · exact w1.elim⟩
def ziL : List D → List D → List D
  | x :: xs, y :: ys => .tup [x, y] :: ziL xs ys
  | _, _ => []
theorem ziL_len : ∀ (xs ys : List D), (ziL xs ys).length = min xs.length ys.length
  | [], ys => by simp [ziL]
  | x :: xs, [] => by simp [ziL]
  | x :: xs, y :: ys => by rw [ziL, List.length_cons, List.length_cons, List.length_cons, ziL_len]; omega
theorem ziL_get : ∀ (j : Nat) (xs ys : List D) (d : D), (ziL xs ys)[j]? = some d → ∃ x y, xs[j]? = some x ∧ ys[j]? = some y ∧ d = .tup [x, y]
  | _, [], ys, d, h => by simp [ziL] at h
  | _, x :: xs, [], d, h => by simp [ziL] at h
  | 0, x :: xs, y :: ys, d, h => by simp [ziL] at h; exact ⟨x, y, rfl, rfl, h.symm⟩
  | j + 1, x :: xs, y :: ys, d, h => by
    rw [ziL, List.getElem?_cons_succ] at h
    exact ziL_get j xs ys d h
def ziI : List D → Option (List D)
  | [.lst xs, .lst ys] => some (ziL xs ys)
  | _ => none
theorem EI.zip {elts : List Expr} {kk : Nat} {tpos : Pos} (hm : X.mg "zip" = none) (ha : EA X W [a, b] fs) (hg : Gl X "zip" := by rfl) (hs : starEach [a, b] X.env = (false, eval a X.env) :: starEach [b] X.env := by rfl) (hpl : (backTo pos (starEach [b] X.env)).any (·.1) = false := by rfl) :
    EI X W (.Tuple elts kk tpos) (.Call (.Name "zip" p) [a, b] [] pos) (itA ziI fs) := ⟨fun B => PI.mono (pi_zip hg hm (ha.run B) hs hpl) fun σ H Q ⟨G, ρ, r, h⟩ =>
  lift.next (rel := relL X.K X.mg) (g := fun d _ => ofO (FL.ziI d)) later_I r h fun ds xs G1 H1 r1 s1 q1 w1 => by
    unfold FL.ziI at w1
    split at w1
    · obtain ⟨v, w, rfl, q, q'⟩ := q1.two
      obtain ⟨p, vs, rfl, l, e1, q⟩ := q.lst
      obtain ⟨p', ws, rfl, l', e1', q'⟩ := q'.lst
      refine ⟨p, p', vs, ws, rfl, SqL.of (r1.gh _ _ e1), SqL.of (r1.gh _ _ e1'), Wr.ok w1 (Stp.refl r1.gh) ⟨by rw [ziL_len]; omega, fun i G' H g gh => ?_⟩⟩
      have sq : SqL X.K H p vs := SqL.of (gh _ _ (g _ _ e1))
      have sq' : SqL X.K H p' ws := SqL.of (gh _ _ (g _ _ e1'))
      refine ⟨fun hl => ⟨vs, ws, sq, sq', by rw [q.len, q'.len]; rw [ziL_len] at hl; omega⟩, fun d hd => ?_⟩
      obtain ⟨x, y, hx, hy, rfl⟩ := ziL_get _ _ _ _ hd
      obtain ⟨v, h1, h2⟩ := q.get hx
      obtain ⟨v', h1', h2'⟩ := q'.get hy
      refine ⟨⟨vs, ws, v, v', sq, sq', h1, h1'⟩, fun x H' ⟨T, y, y', e1, nT, e2, hy, hy'⟩ => ?_⟩
      subst e1 e2
      have ex := hy vs sq
      rw [h1] at ex
      cases ex
      have ex := hy' ws sq'
      rw [h1'] at ex
      cases ex
      exact ⟨_, Stp.new gh nT, R.newT (gh.free nT) (sz_le (by show 2 ≤ _; decide)) ⟨_, _, rfl, R.mono g h2, _, _, rfl, R.mono g h2', rfl⟩⟩
    · exact w1.elim⟩
end
end
end FL
/-! The functional layer, part G: targets, comprehensions. -/
namespace FL
open PySem PySem.Spec PyProof.Rows L2
def wipeE (ρ : En) : List Nat → En
  | [] => ρ
  | v :: vs => (wipeE ρ vs).set v none
theorem wipeE_len (ρ : En) : ∀ vs : List Nat, (wipeE ρ vs).length = ρ.length
  | [] => rfl
  | v :: vs => by rw [wipeE, List.length_set, wipeE_len ρ vs]
theorem wipe_set {σ : L2.St} {i : Nat} {x : Option V} : ∀ {vs : List Nat}, i ∈ vs → wipe (σ.set i x) vs = wipe σ vs
  | [], h => by cases h
  | w :: vs, h => by
    unfold wipe
    by_cases e : i ∈ vs
    · rw [wipe_set e]
    · have e1 : i = w := by
        rcases List.mem_cons.mp h with h | h
        · exact h
        · exact absurd h e
      subst e1
      have key : ∀ us : List Nat, i ∉ us → wipe (σ.set i x) us = (wipe σ us).set i x := by
        intro us
        induction us with
        | nil => intro _; rfl
        | cons u us ih =>
          intro hu
          rw [List.mem_cons, not_or] at hu
          unfold wipe
          rw [ih hu.2, List.set_comm _ _ hu.1]
      rw [key vs e, List.set_set]
theorem wipe_none {σ : L2.St} {v : Nat} : ∀ {vs : List Nat}, v ∈ vs → (wipe σ vs).set v none = wipe σ vs
  | [], h => by cases h
  | w :: vs, h => by
    unfold wipe
    by_cases e : v = w
    · rw [e, List.set_set]
    · rw [List.set_comm _ _ (fun z => e z.symm), wipe_none (by
        rcases List.mem_cons.mp h with h | h
        · exact absurd h e
        · exact h)]
theorem wipe_sub {σ : L2.St} {vs : List Nat} : ∀ {us : List Nat}, (∀ u ∈ us, u ∈ vs) → wipe (wipe σ vs) us = wipe σ vs
  | [], _ => rfl
  | u :: us, h => by
    rw [wipe, wipe_sub (fun x hx => h x (List.mem_cons_of_mem _ hx)), wipe_none (h u List.mem_cons_self)]
theorem wipe_wipe {σ : L2.St} {vs : List Nat} : wipe (wipe σ vs) vs = wipe σ vs := wipe_sub fun _ h => h
def B0 : Bs := ⟨fun _ => none, fun _ => none, []⟩
section
variable {K : PySem.W.Frag} {mg : Str → Option Value} {B : Bs} {G H G' H' : Hp} {σ : L2.St} {ρ : En}
theorem Rep.wipe (r : Rep K mg B G H σ ρ) (vs : List Nat) : Rep K mg B0 G H (L2.wipe σ vs) (wipeE ρ vs) := by
  obtain ⟨F, f⟩ := r.sl
  refine ⟨⟨r.g.gh, fun _ _ h => (nomatch h), fun _ _ h => (nomatch h), fun _ h => absurd rfl h, fun q h => by cases h⟩, by rw [wipeE_len, wipe_length]; exact r.len, F, fun i t e => ?_, f.nd, fun i p hp => ⟨(f.at_ i p hp).1, (f.at_ i p hp).2.1, rfl⟩, f.dj⟩
  have key : ∀ us : List Nat, (wipeE ρ us)[i]? = some (some t) → ρ[i]? = some (some t) ∧ i ∉ us := by
    intro us
    induction us with
    | nil => intro h; exact ⟨h, by simp⟩
    | cons u us ih =>
      intro h
      unfold wipeE at h
      rcases get_set h with ⟨_, _, e⟩ | ⟨ne, e⟩
      · cases e
      · obtain ⟨a, b⟩ := ih e
        exact ⟨a, by rw [List.mem_cons, not_or]; exact ⟨fun z => ne z.symm, b⟩⟩
  obtain ⟨e1, ni⟩ := key vs e
  obtain ⟨v, a, b⟩ := f.rep i t e1
  refine ⟨v, ?_, b⟩
  have key2 : ∀ us : List Nat, i ∉ us → (L2.wipe σ us)[i]? = σ[i]? := by
    intro us
    induction us with
    | nil => intro _; rfl
    | cons u us ih =>
      intro hu
      rw [List.mem_cons, not_or] at hu
      unfold L2.wipe
      rw [List.getElem?_set_ne (fun z => hu.1 z.symm)]
      exact ih hu.2
  rw [key2 vs ni]; exact a
end
/-! ### targets -/
/-- the target stores a datum into slots of vs -/
structure EG (X : Cx) (vs : List Nat) (tg : Expr) (g : D → En → Option En) : Prop where
  run : ∀ B, (∀ q ∈ B.io, q.1 ∉ vs) → PG X tg fun v σ H Q => ∃ G ρ d ρ', Rep X.K X.mg B G H σ ρ ∧ R X.K X.mg G d v ∧ g d ρ = some ρ' ∧ ∀ σ', Rep X.K X.mg B G H σ' ρ' → wipe σ' vs = wipe σ vs → Q σ' H
structure EGs (X : Cx) (vs : List Nat) (ts : List Expr) (g : List D → En → Option En) : Prop where
  run : ∀ B, (∀ q ∈ B.io, q.1 ∉ vs) → PGs X ts fun xs σ H Q => ∃ G ρ ds ρ', Rep X.K X.mg B G H σ ρ ∧ Rs X.K X.mg G ds xs ∧ g ds ρ = some ρ' ∧ ∀ σ', Rep X.K X.mg B G H σ' ρ' → wipe σ' vs = wipe σ vs → Q σ' H
theorem PG.mono {X : Cx} {tg : Expr} {t t' : TG} (h : PG X tg t) (i : ∀ v σ H Q, t' v σ H Q → t v σ H Q) : PG X tg t' := ⟨fun pins s σ H v u Q I r q => h.run pins s σ H v u Q I r (i _ _ _ _ q)⟩
theorem PGs.mono {X : Cx} {tg : List Expr} {t t' : TGs} (h : PGs X tg t) (i : ∀ v σ H Q, t' v σ H Q → t v σ H Q) : PGs X tg t' := ⟨fun pins s σ H v u Q I r q => h.run pins s σ H v u Q I r (i _ _ _ _ q)⟩
def sN (i : Nat) (d : D) (ρ : En) : Option En := some (ρ.set i (some (.d d)))
def sNil (ds : List D) (ρ : En) : Option En := match ds with
  | [] => some ρ
  | _ => none
def sCons (g : D → En → Option En) (gs : List D → En → Option En) (ds : List D) (ρ : En) : Option En := match ds with
  | [] => none
  | d :: ds => (g d ρ).bind (gs ds)
def sT (n : Nat) (gs : List D → En → Option En) (d : D) (ρ : En) : Option En := match d with
  | .tup ds => if ds.length = n then gs ds ρ else none
  | _ => none
section
variable {X : Cx} {vs : List Nat} {pos : Pos} {e : Expr} {es : List Expr} {g : D → En → Option En} {gs : List D → En → Option En}
theorem EG.nm (i : Nat) {x : Str} (hN : X.N.Nodup) (hv : i ∈ vs := by first | exact List.mem_cons_self | decide) (hi : X.N[i]? = some x := by rfl) (hx : Loc X.env.scope x := by first | exact .inl rfl | exact .inr rfl)
    (hf : X.fn x = true ∨ X.env.scope.names.lookup x = some .local := by first | exact .inl rfl | exact .inr rfl) : EG X vs (.Name x pos) (sN i) := ⟨fun B hio => PG.mono (pg_name hN hi hx hf) fun v σ H Q ⟨G, ρ, d, ρ', r, h, e, k⟩ => by
  cases e
  exact k _ ((r.val h).set fun q hq z => hio q hq (z ▸ hv)) (wipe_set hv)⟩
theorem EGs.nil : EGs X vs [] sNil := ⟨fun B hio => PGs.mono pgs_nil fun v σ H Q ⟨G, ρ, ds, ρ', r, h, e, k⟩ => by
  cases ds with
  | nil => cases e; exact ⟨h, k _ r rfl⟩
  | cons _ _ => cases e⟩
theorem EGs.cons (h1 : EG X vs e g) (h2 : EGs X vs es gs) (hs : (assignEach (e :: es) X.env).map (·.2) = assign e X.env :: (assignEach es X.env).map (·.2) := by rfl) : EGs X vs (e :: es) (sCons g gs) := ⟨fun B hio => PGs.mono (pgs_cons (h1.run B hio) (h2.run B hio) hs) fun v σ H Q ⟨G, ρ, ds, ρ', r, h, e, k⟩ => by
  cases ds with
  | nil => cases e
  | cons d ds =>
    obtain ⟨v, t, ev, h, ht⟩ := h
    change (g d ρ).bind (gs ds) = some ρ' at e
    cases e1 : g d ρ with
    | none => rw [e1] at e; cases e
    | some ρ1 =>
      rw [e1] at e
      exact ⟨v, t, ev, G, ρ, d, ρ1, r, h, e1, fun σ' r' w' => ⟨G, ρ1, ds, ρ', r', ht, e, fun σ2 r2 w2 => k σ2 r2 (w2.trans w')⟩⟩⟩
theorem EG.tup {k n : Nat} (hc : X.calm = true) (h : EGs X vs es gs) (hn : (assignEach es X.env).length = n := by rfl) (hst : (assignEach es X.env).findIdx? (·.1) = none := by rfl) : EG X vs (.Tuple es k pos) (sT n gs) := ⟨fun B hio => PG.mono (pg_tup hc (h.run B hio) hn hst) fun v σ H Q ⟨G, ρ, d, ρ', r, h, e, k⟩ => by
  unfold sT at e
  split at e
  · split at e
    · rename_i hl
      obtain ⟨p, ws, rfl, l, e1, q⟩ := h.tup
      exact ⟨p, ws, rfl, SqT.of (r.gh _ _ e1), by rw [q.len]; exact hl, G, ρ, _, ρ', r, q, e, k⟩
    · cases e
  · cases e⟩
end
/-! ### comprehensions -/
abbrev W0 : WW := ⟨False, fun _ _ _ _ => False⟩
structure ETs (X : Cx) (W : WW) (es : List Expr) (f : En → Res Bool) : Prop where
  run : ∀ B, PTs X es (lift X W relB B f)
theorem PTs.mono {X : Cx} {es : List Expr} {t t' : TT} (h : PTs X es t) (i : ∀ σ H Q, t' σ H Q → t σ H Q) : PTs X es t' := by
  obtain ⟨h⟩ := h
  constructor
  intros
  apply h <;> first | assumption | (apply i; assumption)
def yes (_ : En) : Res Bool := .ok true
theorem ETs.nil {X : Cx} {W : WW} : ETs X W [] yes := ⟨fun B => PTs.mono pts_nil fun σ H Q ⟨G, ρ, r, h⟩ => Wr.ok h (Stp.refl r.gh) rfl⟩
theorem ETs.one {X : Cx} {W : WW} {c : Expr} {f : En → Res Bool} (h : ET X W c f) : ETs X W [c] f := ⟨fun B => pts_one (h.run B)⟩
/-- the items of a comprehension -/
def lcL (g : D → En → Option En) (tt : En → Res Bool) (fe : En → Res OT) (ρ : En) : List D → Option (List OT)
  | [] => some []
  | x :: xs => (g x ρ).bind fun ρ1 => match tt ρ1 with
    | .ok true => match fe ρ1 with
      | .ok t => (lcL g tt fe ρ xs).map (t :: ·)
      | _ => none
    | .ok false => lcL g tt fe ρ xs
    | _ => none
def lcD (vs : List Nat) (fi : En → Res (List D)) (g : D → En → Option En) (tt : En → Res Bool) (fe : En → Res OT) (ρ : En) : Res OT := (fi ρ).bind fun xs => ofO ((lcL g tt fe (wipeE ρ vs) xs).map .lst)
theorem lcL_len {g : D → En → Option En} {tt : En → Res Bool} {fe : En → Res OT} {ρ : En} : ∀ {xs : List D} {ts : List OT}, lcL g tt fe ρ xs = some ts → ts.length ≤ xs.length
  | [], ts, h => by cases h; exact Nat.le_refl _
  | x :: xs, ts, h => by
    unfold lcL at h
    cases e1 : g x ρ with
    | none => rw [e1] at h; cases h
    | some ρ1 =>
      rw [e1, Option.bind_some] at h
      split at h
      · split at h
        · obtain ⟨us, hu, rfl⟩ := Option.map_eq_some_iff.mp h
          have := lcL_len hu
          rw [List.length_cons, List.length_cons]; omega
        · cases h
      · have := lcL_len h
        rw [List.length_cons]; omega
      · cases h
section
variable {X : Cx} {W : WW} {elt tg iter : Expr} {ifs : List Expr} {scope : Scope} {own : List (Str × Nat)} {pos : Pos} {fi : En → Res (List D)} {g : D → En → Option En} {tt : En → Res Bool} {fe : En → Res OT}
theorem lc_go {vs : List Nat} {B : Bs} {σ : L2.St} {G1 H1 : Hp} {ρ : En} {Q : VK} {ds : List D} {J : It} (r1 : Rep X.K X.mg B G1 H1 σ ρ) (hlen : ds.length ≤ sizeLine) (walks : Walks X.K X.mg J G1 ds) (w1 : Wr X.K X.mg (relO X.K X.mg) W σ G1 H1 (ofO ((lcL g tt fe (wipeE ρ vs) ds).map .lst)) fun _ v _ H' => Q v H') :
    tLc (fun _ _ R => R J H1) (fun v σ H Q => ∃ G ρ d ρ', Rep X.K X.mg B0 G H σ ρ ∧ R X.K X.mg G d v ∧ g d ρ = some ρ' ∧ ∀ σ', Rep X.K X.mg B0 G H σ' ρ' → wipe σ' vs = wipe σ vs → Q σ' H)
      (lift X W0 relB B0 tt) (lift X W0 (relO X.K X.mg) B0 fe) vs σ H1 Q := by
  show ∀ D, H1 D = none → _
  cases el : lcL g tt fe (wipeE ρ vs) ds with
  | none => rw [el] at w1; exact w1.elim
  | some all =>
    rw [el] at w1
    intro L nL
    refine ⟨fun i m Hc => m = ds.length - i ∧ i ≤ ds.length ∧ ∃ G ts rest ws fps, lcL g tt fe (wipeE ρ vs) (ds.drop i) = some rest ∧ ts ++ rest = all ∧ ts.length ≤ i ∧ Stp G1 H1 G Hc ∧ Hc L = some (.lst ws) ∧ ROs X.K X.mg G Hc ts ws fps ∧ (L :: fps).Nodup ∧ ∀ p ∈ L :: fps, H1 p = none ∧ G p = none,
      ⟨ds.length, by omega, Nat.zero_le _, G1, [], all, [], [], el, rfl, Nat.le_refl _, Stp.own r1.gh nL, upd_same, ⟨rfl, rfl⟩, by simp, fun p hp => by rw [List.mem_singleton.mp hp]; exact ⟨nL, r1.gh.free nL⟩⟩, ?_⟩
    rintro i m Hc ⟨rfl, hi, G2, ts, rest, ws, fps, e1, e2, e3, st, hL, ro, nd, fr⟩
    by_cases hlt : i < ds.length
    · obtain ⟨go, yl⟩ := (walks i G2 Hc st.gg st.gh).2 ds[i] (List.getElem?_eq_getElem hlt)
      refine .inr ⟨go, fun Hn => i + 1 ≤ ds.length ∧ ∃ G ts rest ws fps, lcL g tt fe (wipeE ρ vs) (ds.drop (i + 1)) = some rest ∧ ts ++ rest = all ∧ ts.length ≤ i + 1 ∧ Stp G1 H1 G Hn ∧ Hn L = some (.lst ws) ∧ ROs X.K X.mg G Hn ts ws fps ∧ (L :: fps).Nodup ∧ ∀ p ∈ L :: fps, H1 p = none ∧ G p = none,
        fun H' n => ⟨ds.length - (i + 1), by omega, rfl, n⟩, fun x H' y => ?_⟩
      obtain ⟨G3, s3, rx⟩ := yl x H' y
      have st3 := st.trans s3
      rw [List.drop_eq_getElem_cons hlt] at e1
      unfold lcL at e1
      cases eg : g ds[i] (wipeE ρ vs) with
      | none => rw [eg] at e1; cases e1
      | some ρ1 =>
        rw [eg, Option.bind_some] at e1
        refine ⟨G3, wipeE ρ vs, ds[i], ρ1, (r1.step st3).wipe vs, rx, eg, fun σ' r' w' => ⟨?_, ?_⟩⟩
        · rw [w', wipe_wipe]
        · have again : ∀ {G4 H4 : Hp} {ts' : List OT} {rest' : List OT} {ws' : List V} {fps' : List Addr}, lcL g tt fe (wipeE ρ vs) (ds.drop (i + 1)) = some rest' → ts' ++ rest' = all → ts'.length ≤ i + 1 → Stp G1 H1 G4 H4 → H4 L = some (.lst ws') → ROs X.K X.mg G4 H4 ts' ws' fps' → (L :: fps').Nodup → (∀ p ∈ L :: fps', H1 p = none ∧ G4 p = none) →
              (i + 1 ≤ ds.length ∧ ∃ G ts rest ws fps, lcL g tt fe (wipeE ρ vs) (ds.drop (i + 1)) = some rest ∧ ts ++ rest = all ∧ ts.length ≤ i + 1 ∧ Stp G1 H1 G H4 ∧ H4 L = some (.lst ws) ∧ ROs X.K X.mg G H4 ts ws fps ∧ (L :: fps).Nodup ∧ ∀ p ∈ L :: fps, H1 p = none ∧ G p = none) :=
            fun a1 a2 a3 a4 a5 a6 a7 a8 => ⟨hlt, _, _, _, _, _, a1, a2, a3, a4, a5, a6, a7, a8⟩
          refine ⟨G3, ρ1, r', ?_⟩
          cases et : tt ρ1 with
          | ex c => rw [et] at e1; cases e1
          | bad => rw [et] at e1; cases e1
          | ok b =>
            rw [et] at e1
            intro b' G4 H4 s4 eb
            cases eb
            have st4 := st3.trans s4
            have s24 := s3.trans s4
            have liveL : Hc L ≠ none := by rw [hL]; exact fun z => nomatch z
            cases b with
            | false =>
              rw [if_neg Bool.false_ne_true]
              refine again e1 e2 (by omega) st4 (s24.hh _ _ hL) (ro.frame s24.gg fun p hp => same_at s24.hh (ro.live p hp)) nd fun p hp => ⟨(fr p hp).1, ?_⟩
              rcases List.mem_cons.mp hp with rfl | hp'
              · rw [s24.old _ liveL]; exact (fr _ hp).2
              · rw [s24.old p (ro.live p hp')]; exact (fr p hp).2
            | true =>
              rw [if_pos rfl]
              refine ⟨G4, ρ1, r'.step s4, ?_⟩
              dsimp only at e1
              cases ee : fe ρ1 with
              | ex c => rw [ee] at e1; cases e1
              | bad => rw [ee] at e1; cases e1
              | ok t =>
                rw [ee] at e1
                dsimp only at e1
                obtain ⟨rest', er, rfl⟩ := Option.map_eq_some_iff.mp e1
                intro v G5 H5 s5 ⟨fp, ro5, nd5, fr5⟩
                have s25 := s24.trans s5
                have st5 := st.trans s25
                have hl5 : ts.length < sizeLine := by
                  have h1 : all.length ≤ ds.length := lcL_len el
                  rw [← e2, List.length_append, List.length_cons] at h1
                  omega
                have gL : G5 L = none := by rw [s25.old _ liveL]; exact (fr L List.mem_cons_self).2
                have nfp : ∀ p ∈ fp, p ∉ L :: fps := fun p hp hq => by
                  have h4 : H4 p ≠ none := by
                    rcases List.mem_cons.mp hq with rfl | hq'
                    · exact live_of s24.hh liveL
                    · exact live_of s24.hh (ro.live p hq')
                  exact h4 (fr5 p hp).1
                refine ⟨ws, s25.hh _ _ hL, by rw [ro.len]; exact hl5, ?_⟩
                refine again (ts' := ts ++ [t]) (fps' := fps ++ fp) er (by rw [List.append_assoc]; exact e2) (by rw [List.length_append]; show _ + 1 ≤ _; omega) ⟨fun p o hp => ?_, st5.gg, fun p o hp => ?_, st5.old⟩ upd_same ?_ ?_ ?_
                · rw [upd_ne (fun z => by rw [z, nL] at hp; cases hp)]; exact st5.hh p o hp
                · rw [upd_ne (fun z => by rw [z, gL] at hp; cases hp)]; exact st5.gh p o hp
                · refine ROs.append (ro.frame s25.gg fun p hp => ?_) (ROs.one (ro5.frame (Same.refl _) fun p hp => ?_))
                  · rw [upd_ne (fun z => (List.nodup_cons.mp nd).1 (by rw [← z]; exact hp))]; exact same_at s25.hh (ro.live p hp)
                  · rw [upd_ne (fun z => nfp p hp (by rw [z]; exact List.mem_cons_self))]
                · rw [← List.cons_append, List.nodup_append]
                  exact ⟨nd, nd5, fun p hp q hq z => nfp q hq (z ▸ hp)⟩
                · intro p hp
                  rw [← List.cons_append] at hp
                  rcases List.mem_append.mp hp with hp | hp
                  · refine ⟨(fr p hp).1, ?_⟩
                    rcases List.mem_cons.mp hp with rfl | hp'
                    · exact gL
                    · rw [s25.old p (ro.live p hp')]; exact (fr p hp).2
                  · exact ⟨st4.hh.free (fr5 p hp).1, (fr5 p hp).2⟩
    · have ei : i = ds.length := by omega
      refine .inl ⟨(walks i G2 Hc st.gg st.gh).1 (by omega), ?_⟩
      rw [List.drop_of_length_le (by omega)] at e1
      cases e1
      rw [List.append_nil] at e2
      subst e2
      exact Wr.ok (rel := relO X.K X.mg) (k := fun _ v _ H' => Q v H') w1 st ⟨L :: fps, ⟨L, ws, fps, rfl, rfl, by omega, hL, ro⟩, nd, fr⟩
theorem lc_next {vs : List Nat} {B : Bs} {σ : L2.St} {H : Hp} {Q : VK} (h : lift X W (relO X.K X.mg) B (lcD vs fi g tt fe) σ H Q) :
    tLc (lift X W (relI X.K X.mg) B fi) (fun v σ H Q => ∃ G ρ d ρ', Rep X.K X.mg B0 G H σ ρ ∧ R X.K X.mg G d v ∧ g d ρ = some ρ' ∧ ∀ σ', Rep X.K X.mg B0 G H σ' ρ' → wipe σ' vs = wipe σ vs → Q σ' H)
      (lift X W0 relB B0 tt) (lift X W0 (relO X.K X.mg) B0 fe) vs σ H Q := by
  obtain ⟨G, ρ, r, h⟩ := h
  exact lift.next (rel := relI X.K X.mg) (g := fun xs ρ => ofO ((lcL g tt fe (wipeE ρ vs) xs).map .lst)) later_O r h fun ds J G1 H1 r1 s1 ⟨hlen, walks⟩ w1 => lc_go r1 hlen walks w1
theorem EO.lc (hc : X.calm = true) (hN : X.N.Nodup) (hi : EI X W tg iter fi) (ok : BlkOk X.N X.env.scope scope own)
    (hg : ∀ (s : Shared) (H : Hp) (C : Addr) (cl : List (Str × Addr)) (fp : List Addr), EG (X.blk s H scope (compEnvC scope cl C X.env) fp) (own.map (·.2)) tg g)
    (ht : ∀ (s : Shared) (H : Hp) (C : Addr) (cl : List (Str × Addr)) (fp : List Addr), ETs (X.blk s H scope (compEnvC scope cl C X.env) fp) W0 ifs tt)
    (he : ∀ (s : Shared) (H : Hp) (C : Addr) (cl : List (Str × Addr)) (fp : List Addr), EO (X.blk s H scope (compEnvC scope cl C X.env) fp) W0 elt fe) (hs : ∀ x, foldedSetIterable iter X.env x = pure x := by intro _; rfl) :
    EO X W (.ListComp elt [⟨tg, iter, ifs, 0⟩] scope pos) (lcD (own.map (·.2)) fi g tt fe) := ⟨fun B =>
  PE.mono (pe_lc hc hN (hi.run B) ok (fun s H C cl fp => (hg s H C cl fp).run B0 (fun q h => by cases h)) (fun s H C cl fp => (ht s H C cl fp).run B0) (fun s H C cl fp => (he s H C cl fp).run B0) hs) fun σ H Q h => lc_next h⟩
end
end FL
/-! The functional layer, part H: statements. -/
namespace FL
open PySem PySem.Spec PyProof.Rows L2
inductive Flw where
  | nx (ρ : En) | rt (t : OT) (ρ : En) | bk (ρ : En) | ct (ρ : En) | ex (c : Exn) (ρ : En) | bad
def Out (X : Cx) (W : WW) (B : Bs) (D : Ends) : Flw → Prop
  | .nx ρ => ∀ σ G H, Rep X.K X.mg B G H σ ρ → D.nx σ H
  | .rt t ρ => ∀ v σ G H, RepV X.K X.mg B G H σ ρ t v → D.rt v H
  | .bk ρ => ∀ σ G H, Rep X.K X.mg B G H σ ρ → D.bk σ H
  | .ct ρ => ∀ σ G H, Rep X.K X.mg B G H σ ρ → D.ct σ H
  | .ex c ρ => W.on ∧ ∀ σ G H cls dd, Rep X.K X.mg B G H σ ρ → RX X.K X.mg G H c cls dd → W.w cls dd σ H
  | .bad => False
def lS (X : Cx) (W : WW) (B : Bs) (F : En → Flw) : TS := fun D σ H => ∃ G ρ, Rep X.K X.mg B G H σ ρ ∧ Out X W B D (F ρ)
/-- the statement does what F says; the slots in io keep their values -/
structure S1 (X : Cx) (W : WW) (io : List Nat) (st : Stmt) (F : En → Flw) : Prop where
  run : ∀ B, B.io.map (·.1) = io → PS X st (lS X W B F)
structure SS (X : Cx) (W : WW) (io : List Nat) (sts : List Stmt) (F : En → Flw) : Prop where
  run : ∀ B, B.io.map (·.1) = io → PSs X sts (lS X W B F)
/-- a value, then on -/
def bindF {α : Type} (r : Res α) (ρ : En) (k : α → Flw) : Flw := match r with
  | .ok a => k a
  | .ex c => .ex c ρ
  | .bad => .bad
@[simp] theorem bindF_ok {α : Type} (a : α) (ρ : En) (k : α → Flw) : bindF (.ok a) ρ k = k a := rfl
@[simp] theorem bindF_ex {α : Type} (c : Exn) (ρ : En) (k : α → Flw) : bindF (.ex c) ρ k = .ex c ρ := rfl
@[simp] theorem bindF_bad {α : Type} (ρ : En) (k : α → Flw) : bindF .bad ρ k = .bad := rfl
def seqF (f g : En → Flw) (ρ : En) : Flw := match f ρ with
  | .nx ρ' => g ρ'
  | r => r
theorem io_ne {B : Bs} {io : List Nat} {i : Nat} (e : B.io.map (·.1) = io) (h : i ∉ io) : ∀ q ∈ B.io, q.1 ≠ i := fun q hq z => h (by rw [← e, ← z]; exact List.mem_map_of_mem hq)
section
variable {X : Cx} {W : WW} {io : List Nat} {B : Bs} {N : Ends} {G H : Hp} {σ : L2.St} {ρ : En} {st : Stmt} {sts : List Stmt} {F F' : En → Flw} {f : En → Res D} {fo : En → Res OT} {e : Expr} {pos : Pos}
theorem Out.bind {α β : Type} {rel : Hp → Hp → Hp → α → β → Prop} {r : Res α} {k : α → Flw} {Q : β → Hp → Prop} (rep : Rep X.K X.mg B G H σ ρ) (h : Out X W B N (bindF r ρ k))
    (hk : ∀ a b G' H', Rep X.K X.mg B G' H' σ ρ → Stp G H G' H' → rel H G' H' a b → Out X W B N (k a) → Q b H') : lift X W rel B (fun _ => r) σ H Q := ⟨G, ρ, rep, by
  cases r with
  | ok a => exact fun b G' H' s q => hk a b G' H' (rep.step s) s q h
  | ex c => exact ⟨h.1, fun G' H' cls dd s q => h.2 σ G' H' cls dd (rep.step s) q⟩
  | bad => exact h⟩
theorem lift.of {α β : Type} {rel : Hp → Hp → Hp → α → β → Prop} {g : En → Res α} {k : α → Flw} {Q : β → Hp → Prop} (rep : Rep X.K X.mg B G H σ ρ) (h : Out X W B N (bindF (g ρ) ρ k))
    (hk : ∀ a b G' H', Rep X.K X.mg B G' H' σ ρ → Stp G H G' H' → rel H G' H' a b → Out X W B N (k a) → Q b H') : lift X W rel B g σ H Q := ⟨G, ρ, rep, by
  cases e : g ρ with
  | ok a => rw [e] at h; exact fun b G' H' s q => hk a b G' H' (rep.step s) s q h
  | ex c => rw [e] at h; exact ⟨h.1, fun G' H' cls dd s q => h.2 σ G' H' cls dd (rep.step s) q⟩
  | bad => rw [e] at h; exact h⟩
theorem SS.nil : SS X W io [] .nx := ⟨fun B _ => PSs.mono pss_nil fun N σ H ⟨G, ρ, r, h⟩ => h σ G H r⟩
theorem SS.cons (h1 : S1 X W io st F) (h2 : SS X W io sts F') : SS X W io (st :: sts) (seqF F F') := ⟨fun B hB => PSs.mono (pss_cons (h1.run B hB) (h2.run B hB)) fun N σ H ⟨G, ρ, r, h⟩ => ⟨G, ρ, r, by
  unfold seqF at h
  cases e : F ρ with
  | nx ρ' => rw [e] at h; exact fun σ G H r => ⟨G, ρ', r, h⟩
  | rt t ρ' => rw [e] at h; exact h
  | bk ρ' => rw [e] at h; exact h
  | ct ρ' => rw [e] at h; exact h
  | ex c ρ' => rw [e] at h; exact h
  | bad => rw [e] at h; exact h⟩⟩
theorem SS.one (h1 : S1 X W io st F) : SS X W io [st] F := ⟨fun B hB => pss_one (h1.run B hB)⟩
/-- a slot's thing is frozen, forgotten -/
def fzF (i : Nat) (F : En → Flw) (ρ : En) : Flw := F (frzAt i ρ)
def fgF (i : Nat) (F : En → Flw) (ρ : En) : Flw := F (ρ.set i none)
theorem SS.fz (i : Nat) (h : SS X W io sts F) : SS X W io sts (fzF i F) := ⟨fun B hB => PSs.mono (h.run B hB) fun N σ H ⟨G, ρ, r, h⟩ => by
  obtain ⟨G', r'⟩ := r.fzAt i
  exact ⟨G', _, r', h⟩⟩
theorem SS.fg (i : Nat) (h : SS X W io sts F) : SS X W io sts (fgF i F) := ⟨fun B hB => PSs.mono (h.run B hB) fun N σ H ⟨G, ρ, r, h⟩ => ⟨G, _, r.forget i, h⟩⟩
/-! stores -/
def asg (i : Nat) (f : En → Res D) (ρ : En) : Flw := bindF (f ρ) ρ fun d => .nx (ρ.set i (some (.d d)))
def asgO (i : Nat) (f : En → Res OT) (ρ : En) : Flw := bindF (f ρ) ρ fun t => .nx (ρ.set i (some t))
theorem S1.asg (i : Nat) {x : Str} {pos' : Pos} (h : EF X W e f) (hN : X.N.Nodup) (hio : i ∉ io := by decide) (hi : X.N[i]? = some x := by rfl) (hx : Loc X.env.scope x := by first | exact .inl rfl | exact .inr rfl) (hs : swapsWith e (some (.Name x pos')) pos.line X.env = pure false := by rfl)
    (hf : X.fn x = true ∨ X.env.scope.names.lookup x = some .local := by first | exact .inl rfl | exact .inr rfl) : S1 X W io (.Assign [.Name x pos'] e pos) (asg i f) := ⟨fun B hB => PS.mono (ps_set hN hi hx (h.run B) hs hf) fun N σ H ⟨G, ρ, r, h⟩ =>
  lift.of r h fun a b G' H' r' s q o => o _ _ _ ((r'.val q).set (io_ne hB hio))⟩
theorem S1.asgO (i : Nat) {x : Str} {pos' : Pos} (h : EO X W e fo) (hN : X.N.Nodup) (hio : i ∉ io := by decide) (hi : X.N[i]? = some x := by rfl) (hx : Loc X.env.scope x := by first | exact .inl rfl | exact .inr rfl) (hs : swapsWith e (some (.Name x pos')) pos.line X.env = pure false := by rfl)
    (hf : X.fn x = true ∨ X.env.scope.names.lookup x = some .local := by first | exact .inl rfl | exact .inr rfl) : S1 X W io (.Assign [.Name x pos'] e pos) (asgO i fo) := ⟨fun B hB => PS.mono (ps_set hN hi hx (h.run B) hs hf) fun N σ H ⟨G, ρ, r, h⟩ =>
  lift.of r h fun a b G' H' r' s ⟨fp, q1, q2, q3⟩ o => o _ _ _ ((r.fresh s q1 q2 q3).set (io_ne hB hio))⟩
section
variable {elt tg iter : Expr} {ifs : List Expr} {scope : Scope} {own : List (Str × Nat)} {fi : En → Res (List D)} {g : D → En → Option En} {tt : En → Res Bool} {fe : En → Res OT}
/-- name = [.. for ..] on one line -/
theorem S1.lc (i : Nat) {y : Str} {py spos : Pos} (hc : X.calm = true) (hN : X.N.Nodup) (hi : EI X W tg iter fi) (ok : BlkOk X.N X.env.scope scope own)
    (hg : ∀ (s : Shared) (H : Hp) (C : Addr) (cl : List (Str × Addr)) (fp : List Addr), EG (X.blk s H scope (compEnvC scope cl C X.env) fp) (own.map (·.2)) tg g)
    (ht : ∀ (s : Shared) (H : Hp) (C : Addr) (cl : List (Str × Addr)) (fp : List Addr), ETs (X.blk s H scope (compEnvC scope cl C X.env) fp) W0 ifs tt)
    (he : ∀ (s : Shared) (H : Hp) (C : Addr) (cl : List (Str × Addr)) (fp : List Addr), EO (X.blk s H scope (compEnvC scope cl C X.env) fp) W0 elt fe)
    (hsw : swapsWith (.ListComp elt [⟨tg, iter, ifs, 0⟩] scope pos) (some (.Name y py)) spos.line X.env = pure true) (hio : i ∉ io := by decide) (hy : X.N[i]? = some y := by rfl) (hyl : X.env.scope.names.lookup y = some .local := by rfl) (hs : ∀ x, foldedSetIterable iter X.env x = pure x := by intro _; rfl) :
    S1 X W io (.Assign [.Name y py] (.ListComp elt [⟨tg, iter, ifs, 0⟩] scope pos) spos) (FL.asgO i (lcD (own.map (·.2)) fi g tt fe)) := ⟨fun B hB =>
  PS.mono (ps_setLc hc hN hy hyl hsw (hi.run B) ok (fun s H C cl fp => (hg s H C cl fp).run B0 (fun q h => by cases h)) (fun s H C cl fp => (ht s H C cl fp).run B0) (fun s H C cl fp => (he s H C cl fp).run B0) hs) fun N σ H ⟨G, ρ, r, h⟩ =>
    lc_next (lift.of r h fun a b G' H' r' s ⟨fp, q1, q2, q3⟩ o => o _ _ _ ((r.fresh s q1 q2 q3).set (io_ne hB hio)))⟩
end
def asgG (g : D → En → Option En) (f : En → Res D) (ρ : En) : Flw := bindF (f ρ) ρ fun d => match g d ρ with
  | some ρ' => .nx ρ'
  | none => .bad
theorem S1.tgt {vs : List Nat} {tg : Expr} {g : D → En → Option En} (h : EF X W e f) (hg : EG X vs tg g) (hio : ∀ i ∈ io, i ∉ vs := by decide) (hs : swapsWithSole [tg] e pos.line X.env = pure false := by rfl) (hw : swappedStores [tg] e X.env = pure none := by rfl)
    (h1 : (assignEach [tg] X.env).map (·.2) = [assign tg X.env] := by rfl) : S1 X W io (.Assign [tg] e pos) (asgG g f) := ⟨fun B hB => PS.mono (ps_asg (h.run B) (hg.run B (fun q hq => hio q.1 (by rw [← hB]; exact List.mem_map_of_mem hq))) hs hw h1) fun N σ H ⟨G, ρ, r, h⟩ =>
  lift.of r h fun a b G' H' r' s q o => by
    cases eg : g a ρ with
    | none => rw [eg] at o; exact o.elim
    | some ρ' => rw [eg] at o; exact ⟨G', ρ, a, ρ', r', q, eg, fun σ' r2 _ => o _ _ _ r2⟩⟩
/-! small statements -/
def drp (f : En → Res D) (ρ : En) : Flw := bindF (f ρ) ρ fun _ => .nx ρ
theorem S1.drop (h : EF X W e f) (hs : swapsWith e none pos.line X.env = pure false := by rfl) : S1 X W io (.Expr e pos) (drp f) := ⟨fun B hB => PS.mono (ps_expr (h.run B) hs) fun N σ H ⟨G, ρ, r, h⟩ => lift.of r h fun a b G' H' r' s q o => o _ _ _ r'⟩
def ret (f : En → Res D) (ρ : En) : Flw := bindF (f ρ) ρ fun d => .rt (.d d) ρ
def retO (f : En → Res OT) (ρ : En) : Flw := bindF (f ρ) ρ fun t => .rt t ρ
theorem S1.ret (h : EF X W e f) : S1 X W io (.Return (some e) pos) (ret f) := ⟨fun B hB => PS.mono (ps_ret (h.run B)) fun N σ H ⟨G, ρ, r, h⟩ => lift.of r h fun a b G' H' r' s q o => o _ _ _ _ (r'.val q)⟩
theorem S1.retO (h : EO X W e fo) : S1 X W io (.Return (some e) pos) (retO fo) := ⟨fun B hB => PS.mono (ps_ret (h.run B)) fun N σ H ⟨G, ρ, r, h⟩ => lift.of r h fun a b G' H' r' s ⟨fp, q1, q2, q3⟩ o => o _ _ _ _ (r.fresh s q1 q2 q3)⟩
/-- return x, x an owned thing -/
def retM (i : Nat) (ρ : En) : Flw := match ρ[i]? with
  | some (some t) => .rt t (ρ.set i none)
  | _ => .bad
theorem S1.retM (i : Nat) {x : Str} {pos' : Pos} (hN : X.N[i]? = some x := by rfl) (hv : Vis X.env.scope x := by first | exact Or.inl rfl | exact Or.inr (Or.inl rfl) | exact Or.inr (Or.inr rfl)) (hd : (x == ("__debug__" : Str)) = false := by decide)
    (hcd : (x == ("__classdict__" : Str)) = false := by decide) : S1 X W io (.Return (some (.Name x pos')) pos) (retM i) := ⟨fun B hB => PS.mono (ps_ret (pe_var hN hv hd hcd)) fun N σ H ⟨G, ρ, r, h⟩ => by
  unfold FL.retM at h
  split at h
  · rename_i t e
    obtain ⟨v, a, rv⟩ := r.move e
    exact ⟨v, a, h v σ G H rv⟩
  · exact h.elim⟩
def retN (ρ : En) : Flw := .rt (.d .non) ρ
theorem S1.retN : S1 X W io (.Return none pos) retN := ⟨fun B hB => PS.mono ps_retN fun N σ H ⟨G, ρ, r, h⟩ => h _ _ _ _ (r.val (d := .non) rfl)⟩
theorem S1.pass : S1 X W io (.Pass pos) .nx := ⟨fun B hB => PS.mono ps_pass fun N σ H ⟨G, ρ, r, h⟩ => h _ _ _ r⟩
theorem S1.brk : S1 X W io (.Break pos) .bk := ⟨fun B hB => PS.mono ps_break fun N σ H ⟨G, ρ, r, h⟩ => h _ _ _ r⟩
theorem S1.cont : S1 X W io (.Continue pos) .ct := ⟨fun B hB => PS.mono ps_continue fun N σ H ⟨G, ρ, r, h⟩ => h _ _ _ r⟩
def ifF (t : En → Res Bool) (f g : En → Flw) (ρ : En) : Flw := bindF (t ρ) ρ fun b => if b = true then f ρ else g ρ
theorem S1.ite {c : Expr} {a b : List Stmt} {t : En → Res Bool} (hc : ET X W c t) (ha : SS X W io a F) (hb : SS X W io b F') : S1 X W io (.If c a b pos) (ifF t F F') := ⟨fun B hB => PS.mono (ps_if (hc.run B) (ha.run B hB) (hb.run B hB)) fun N σ H ⟨G, ρ, r, h⟩ =>
  lift.of (rel := relB) r h fun k k' G' H' r' s q o => by
    cases q
    cases k with
    | true => exact ⟨G', ρ, r', o⟩
    | false => exact ⟨G', ρ, r', o⟩⟩
/-- code that is never come to -/
def raF (c : Str) (ρ : En) : Flw := .ex ⟨c, none⟩ ρ
theorem S1.raise0 {c : Str} : S1 X W0 io st (raF c) := ⟨fun B hB => PS.mono ps_never fun N σ H ⟨G, ρ, r, h⟩ => h.1⟩
/-! loops -/
def forL (g : D → En → Option En) (body : En → Flw) : List D → En → Flw
  | [], ρ => .nx ρ
  | x :: xs, ρ => match g x ρ with
    | none => .bad
    | some ρ1 => match body ρ1 with
      | .nx ρ2 => forL g body xs ρ2
      | .ct ρ2 => forL g body xs ρ2
      | .bk ρ2 => .nx ρ2
      | r => r
def forF (fi : En → Res (List D)) (g : D → En → Option En) (body : En → Flw) (ρ : En) : Flw := bindF (fi ρ) ρ fun xs => forL g body xs ρ
theorem Rep.base {K : PySem.W.Frag} {mg : Str → Option Value} {G1 : Hp} (r : Rep K mg ⟨B.O, G1, B.io⟩ G H σ ρ) (g : Same B.G0 G1) (og : ∀ p, B.O p ≠ none → G1 p = B.G0 p) : Rep K mg B G H σ ρ := by
  obtain ⟨F, f⟩ := r.sl
  exact ⟨⟨r.g.gh, r.g.oh, g.trans r.g.g0, fun p h => (r.g.og p h).trans (og p h), r.g.io⟩, r.len, F, ⟨f.rep, f.nd, f.at_, f.dj⟩⟩
theorem RepV.base {K : PySem.W.Frag} {mg : Str → Option Value} {G1 : Hp} {t : OT} {v : V} (r : RepV K mg ⟨B.O, G1, B.io⟩ G H σ ρ t v) (g : Same B.G0 G1) (og : ∀ p, B.O p ≠ none → G1 p = B.G0 p) : RepV K mg B G H σ ρ t v := by
  obtain ⟨F, fv, f, a, b, c, d⟩ := r.sl
  exact ⟨⟨r.g.gh, r.g.oh, g.trans r.g.g0, fun p h => (r.g.og p h).trans (og p h), r.g.io⟩, r.len, F, fv, ⟨f.rep, f.nd, f.at_, f.dj⟩, a, b, c, d⟩
theorem Rep.unbase {K : PySem.W.Frag} {mg : Str → Option Value} {G1 : Hp} (r : Rep K mg B G H σ ρ) (g : Same G1 G) (og : ∀ p, B.O p ≠ none → G p = G1 p) : Rep K mg ⟨B.O, G1, B.io⟩ G H σ ρ := by
  obtain ⟨F, f⟩ := r.sl
  exact ⟨⟨r.g.gh, r.g.oh, g, og, r.g.io⟩, r.len, F, ⟨f.rep, f.nd, f.at_, f.dj⟩⟩
theorem Out.rebase {G1 : Hp}  {o : Flw} (g : Same B.G0 G1) (og : ∀ p, B.O p ≠ none → G1 p = B.G0 p) (h : Out X W B N o) : Out X W ⟨B.O, G1, B.io⟩ N o := by
  cases o with
  | nx ρ => exact fun σ G H r => h σ G H (r.base g og)
  | rt t ρ => exact fun v σ G H r => h v σ G H (r.base g og)
  | bk ρ => exact fun σ G H r => h σ G H (r.base g og)
  | ct ρ => exact fun σ G H r => h σ G H (r.base g og)
  | ex c ρ => exact ⟨h.1, fun σ G H cls dd r => h.2 σ G H cls dd (r.base g og)⟩
  | bad => exact h
theorem SS.any (h : SS X W io sts F) : PSs X sts (fun N σ H => ∃ B, B.io.map (·.1) = io ∧ lS X W B F N σ H) := ⟨fun pins s σ H N I ⟨B, hB, q⟩ => (h.run B hB).run pins s σ H N I q⟩
theorem S1.for {tg iter : Expr} {body : List Stmt} {vs : List Nat} {fi : En → Res (List D)} {g : D → En → Option En} (hp : PassesOwn (model X.prog X.w) X.A X.env X.xe) (hc : X.calm = true) (hi : EI X W tg iter fi) (hg : EG X vs tg g) (hb : SS X W io body F) (hio : ∀ i ∈ io, i ∉ vs := by decide)
    (hs : ∀ x, foldedSetIterable iter X.env x = pure x := by intro _; rfl) : S1 X W io (.For tg iter body [] pos) (forF fi g F) := ⟨fun B hB => PS.mono (ps_for hp hc (hi.run B) (hg.run B (fun q hq => hio q.1 (by rw [← hB]; exact List.mem_map_of_mem hq))) hb.any hs) fun N σ H ⟨G, ρ, r, h⟩ =>
  lift.of r h fun ds J G1 H1 r1 s1 ⟨_, walks⟩ o => by
    refine ⟨fun i m σ H => m = ds.length - i ∧ i ≤ ds.length ∧ ∃ G ρ, Rep X.K X.mg B G H σ ρ ∧ Same G1 G ∧ Out X W B N (forL g F (ds.drop i) ρ), ⟨ds.length, by omega, Nat.zero_le _, G1, ρ, r1, Same.refl _, o⟩, ?_⟩
    rintro i m σ2 H2 ⟨rfl, hi, G2, ρ2, r2, g12, o2⟩
    have og : ∀ p, B.O p ≠ none → G1 p = B.G0 p := r1.g.og
    by_cases hlt : i < ds.length
    · obtain ⟨go, yl⟩ := (walks i G2 H2 g12 r2.gh).2 ds[i] (List.getElem?_eq_getElem hlt)
      refine .inr ⟨go, fun σ' H' => i + 1 ≤ ds.length ∧ ∃ G ρ, Rep X.K X.mg B G H' σ' ρ ∧ Same G1 G ∧ Out X W B N (forL g F (ds.drop (i + 1)) ρ), fun σ' H' n => ⟨ds.length - (i + 1), by omega, rfl, n⟩, fun x H' y => ?_⟩
      obtain ⟨G3, s3, rx⟩ := yl x H' y
      rw [List.drop_eq_getElem_cons hlt] at o2
      unfold forL at o2
      cases eg : g ds[i] ρ2 with
      | none => rw [eg] at o2; exact o2.elim
      | some ρ3 =>
        rw [eg] at o2
        dsimp only at o2
        have r3 := r2.step s3
        have g13 := g12.trans s3.gg
        refine ⟨G3, ρ2, ds[i], ρ3, r3, rx, eg, fun σ' r' _ => ⟨⟨B.O, G1, B.io⟩, hB, G3, ρ3, r'.unbase g13 (fun p hp => (r3.g.og p hp).trans (og p hp).symm), ?_⟩⟩
        cases ef : F ρ3 with
        | nx ρ4 =>
          rw [ef] at o2
          exact fun σ G H r => ⟨hlt, G, ρ4, r.base r1.g.g0 og, r.g.g0, o2⟩
        | ct ρ4 =>
          rw [ef] at o2
          exact fun σ G H r => ⟨hlt, G, ρ4, r.base r1.g.g0 og, r.g.g0, o2⟩
        | bk ρ4 =>
          rw [ef] at o2
          exact fun σ G H r => o2 σ G H (r.base r1.g.g0 og)
        | rt t ρ4 =>
          rw [ef] at o2
          exact fun v σ G H r => o2 v σ G H (r.base r1.g.g0 og)
        | ex c ρ4 =>
          rw [ef] at o2
          exact ⟨o2.1, fun σ G H cls dd r => o2.2 σ G H cls dd (r.base r1.g.g0 og)⟩
        | bad => rw [ef] at o2; exact o2.elim
    · rw [List.drop_of_length_le (by omega)] at o2
      exact .inl ⟨(walks i G2 H2 g12 r2.gh).1 (by omega), o2 _ _ _ r2⟩⟩
/-- while, at most n turns -/
def whN (c : En → Res Bool) (body : En → Flw) : Nat → En → Option Flw
  | 0, _ => none
  | n + 1, ρ => match c ρ with
    | .ok true => match body ρ with
      | .nx ρ' => whN c body n ρ'
      | .ct ρ' => whN c body n ρ'
      | .bk ρ' => some (.nx ρ')
      | r => some r
    | .ok false => some (.nx ρ)
    | .ex x => some (.ex x ρ)
    | .bad => some .bad
open Classical in
noncomputable def whF (c : En → Res Bool) (body : En → Flw) (ρ : En) : Flw := if h : ∃ n r, whN c body n ρ = some r then h.choose_spec.choose else .bad
theorem whN_more {c : En → Res Bool} {body : En → Flw} : ∀ {n m : Nat} {ρ : En} {r : Flw}, n ≤ m → whN c body n ρ = some r → whN c body m ρ = some r
  | 0, _, _, _, _, h => by cases h
  | n + 1, 0, _, _, l, _ => by omega
  | n + 1, m + 1, ρ, r, l, h => by
    unfold whN at h ⊢
    split at h
    · split at h
      · exact whN_more (by omega) h
      · exact whN_more (by omega) h
      · exact h
      · exact h
    · exact h
    · exact h
    · exact h
theorem whF_of {c : En → Res Bool} {body : En → Flw} {n : Nat} {ρ : En} {r : Flw} (h : whN c body n ρ = some r) : whF c body ρ = r := by
  have hx : ∃ n r, whN c body n ρ = some r := ⟨n, r, h⟩
  unfold whF
  rw [dif_pos hx]
  have e := hx.choose_spec.choose_spec
  have a := whN_more (Nat.le_max_left n hx.choose) h
  have b := whN_more (Nat.le_max_right n hx.choose) e
  rw [a] at b
  exact (Option.some.inj b).symm
theorem S1.while {c : Expr} {body : List Stmt} {t : En → Res Bool} (hp : PassesOwn (model X.prog X.w) X.A X.env X.xe) (hc : ET X W c t) (hb : SS X W io body F) : S1 X W io (.While c body [] pos) (whF t F) := ⟨fun B hB => PS.mono (ps_while hp (hc.run B) hb.any) fun N σ H ⟨G, ρ, r, h⟩ => by
  by_cases hx : ∃ n r, whN t F n ρ = some r
  · obtain ⟨n, q, hq⟩ := hx
    rw [whF_of hq] at h
    refine ⟨fun m σ H => ∃ G ρ q, Rep X.K X.mg B G H σ ρ ∧ whN t F m ρ = some q ∧ Out X W B N q, ⟨n, G, ρ, q, r, hq, h⟩, ?_⟩
    rintro m σ2 H2 ⟨G2, ρ2, q2, r2, e2, o2⟩
    cases m with
    | zero => cases e2
    | succ m =>
      unfold whN at e2
      refine ⟨G2, ρ2, r2, ?_⟩
      cases et : t ρ2 with
      | bad => rw [et] at e2; cases e2; exact o2
      | ex x => rw [et] at e2; cases e2; exact ⟨o2.1, fun G' H' cls dd s q => o2.2 σ2 G' H' cls dd (r2.step s) q⟩
      | ok b =>
        rw [et] at e2
        intro b' G3 H3 s3 eb
        cases eb
        have r3 := r2.step s3
        cases b with
        | false =>
          dsimp only at e2
          cases e2
          rw [if_neg Bool.false_ne_true]
          exact o2 _ _ _ r3
        | true =>
          dsimp only at e2
          rw [if_pos rfl]
          refine ⟨fun σ' H' => ∃ G ρ q, Rep X.K X.mg B G H' σ' ρ ∧ whN t F m ρ = some q ∧ Out X W B N q, fun σ' H' n => ⟨m, Nat.lt_succ_self m, n⟩, B, hB, G3, ρ2, r3, ?_⟩
          cases ef : F ρ2 with
          | nx ρ4 => rw [ef] at e2; exact fun σ G H r => ⟨G, ρ4, q2, r, e2, o2⟩
          | ct ρ4 => rw [ef] at e2; exact fun σ G H r => ⟨G, ρ4, q2, r, e2, o2⟩
          | bk ρ4 => rw [ef] at e2; cases e2; exact o2
          | rt t ρ4 => rw [ef] at e2; cases e2; exact o2
          | ex c ρ4 => rw [ef] at e2; cases e2; exact o2
          | bad => rw [ef] at e2; cases e2; exact o2.elim
  · unfold whF at h
    rw [dif_neg hx] at h
    exact h.elim⟩
end
end FL
/-! The functional layer, part I: defs and their calls. -/
namespace FL
open PySem PySem.Spec PyProof.Rows L2
/-- a def's promise: on what is handed in (frozen) it does what F says; `on`: it may raise -/
def spP (K : PySem.W.Frag) (mg : Str → Option Value) (on : Prop) (F : List D → Res OT) : Sp := fun vs H Q E => ∃ G ds, Same G H ∧ Rs K mg G ds vs ∧ match F ds with
  | .ok t => ∀ v G' H', Stp G H G' H' → relO K mg H G' H' t v → Q v H'
  | .ex c => on ∧ ∀ G' H' cls dd, Stp G H G' H' → RX K mg G' H' c cls dd → E cls dd H'
  | .bad => False
/-- a body with a parameters and n slots, as a function of what is handed in -/
def args (n : Nat) (ds : List D) : En := ds.map (fun d => some (.d d)) ++ List.replicate (n - ds.length) none
def run (a n : Nat) (F : En → Flw) (ds : List D) : Res OT := if ds.length = a then match F (args n ds) with
  | .nx _ => .ok (.d .non)
  | .rt t _ => .ok t
  | .ex c _ => .ex c
  | _ => .bad else .bad
theorem args_rep {K : PySem.W.Frag} {mg : Str → Option Value} {G H : Hp} {ds : List D} {vs : List V} {N : List Str} (gh : Same G H) (rs : Rs K mg G ds vs) : Rep K mg ⟨H, G, []⟩ G H (L2.start N vs) (args N.length ds) := by
  have hl := rs.len
  refine ⟨⟨gh, Same.refl _, Same.refl _, fun _ _ => rfl, fun q h => by cases h⟩, ?_, fun _ => [], fun i t e => ?_, fun _ => List.nodup_nil, fun i p hp => absurd hp (by simp), fun i j p _ hp => absurd hp (by simp)⟩
  · unfold L2.start args
    rw [List.length_append, List.length_append, List.length_map, List.length_map, List.length_replicate, List.length_replicate, hl]
  · unfold args at e
    by_cases hi : i < ds.length
    · rw [List.getElem?_append_left (by simpa using hi), List.getElem?_map, List.getElem?_eq_getElem hi] at e
      cases e
      obtain ⟨v, h1, h2⟩ := rs.get (List.getElem?_eq_getElem hi)
      refine ⟨v, ?_, RO.dd h2⟩
      unfold L2.start
      rw [List.getElem?_append_left (by rw [List.length_map, hl]; exact hi), List.getElem?_map, h1]
      rfl
    · rw [List.getElem?_append_right (by simpa using hi), List.getElem?_replicate] at e
      split at e <;> cases e
theorem Gr.stp {K : PySem.W.Frag} {mg : Str → Option Value} {G H G' H' : Hp} {σ : L2.St} (g : Gr ⟨H, G, []⟩ G' H' σ) : Stp G H G' H' := ⟨g.oh, g.g0, g.gh, g.og⟩
theorem out_run {X : Cx} {W : WW} {on : Prop} {a n : Nat} {F : En → Flw} {ds : List D} {G H : Hp} {Q : VK} {E : XK} (hW : on → W.on) (hE : ∀ cls d σ H', E cls d H' → W.w cls d σ H') (hl : ds.length = a)
    (h : match run a n F ds with
      | .ok t => ∀ v G' H', Stp G H G' H' → relO X.K X.mg H G' H' t v → Q v H'
      | .ex c => on ∧ ∀ G' H' cls dd, Stp G H G' H' → RX X.K X.mg G' H' c cls dd → E cls dd H'
      | .bad => False) : Out X W ⟨H, G, []⟩ { nx := fun _ H' => Q .non H', rt := Q } (F (args n ds)) := by
  unfold run at h
  rw [if_pos hl] at h
  cases e : F (args n ds) with
  | nx ρ =>
    rw [e] at h
    exact fun σ G' H' r => h .non G' H' (Gr.stp (K := X.K) (mg := X.mg) r.g) ⟨[], RO.dd rfl, List.nodup_nil, fun p hp => absurd hp (by simp)⟩
  | rt t ρ =>
    rw [e] at h
    intro v σ G' H' r
    obtain ⟨F', fv, f, a1, a2, a3, a4⟩ := r.sl
    exact h v G' H' (Gr.stp (K := X.K) (mg := X.mg) r.g) ⟨fv, a1, a2, fun p hp => ⟨(a3 p hp).2.2, (a3 p hp).2.1⟩⟩
  | ex c ρ =>
    rw [e] at h
    exact ⟨hW h.1, fun σ G' H' cls dd r q => hE _ _ _ _ (h.2 G' H' cls dd (Gr.stp (K := X.K) (mg := X.mg) r.g) q)⟩
  | bk ρ => rw [e] at h; exact h.elim
  | ct ρ => rw [e] at h; exact h.elim
  | bad => rw [e] at h; exact h.elim
theorem spP_len {K : PySem.W.Frag} {mg : Str → Option Value} {on : Prop} {a n : Nat} {F : En → Flw} {vs : List V} {H : Hp} {Q : VK} {E : XK} (h : spP K mg on (run a n F) vs H Q E) : vs.length = a := by
  obtain ⟨G, ds, _, rs, h⟩ := h
  rw [rs.len]
  unfold run at h
  by_cases e : ds.length = a
  · exact e
  · rw [if_neg e] at h; exact h.elim
section
variable {P : Program} {w : World} {K : PySem.W.Frag} {mg : Str → Option Value} {base : Heap}
/-- a def that raises nothing -/
theorem fn0 {x qual : Str} {st : Stmt} {f : Addr} {fd : FuncData} {N ps : List Str} {k : Nat} {F : En → Flw} (Fn : Fun K x qual st f fd) (S : FnScope N ps (defScope st))
    (hb : ∀ (cdv : Value) (A : Around) (outer : List Env) (s : Shared) (H : Hp) (E : XK), Room k (A.deeper (envOfC qual (defScope st) s.heap.objs.size f cdv)) → SS (cxOf CX0 P w K mg base N qual (defScope st) f cdv A outer s H E).nox W0 [] (defBody st) F) :
    FnOk P w K mg base CX0 (k + 1) f fd ps (spP K mg False (run ps.length N.length F)) := by
  refine Fn.ok S (fun vs H Q E h => spP_len h) (fun cdv A outer s H vs Q E hr hsp => ?_)
  have hl := spP_len hsp
  obtain ⟨G, ds, gh, rs, h⟩ := hsp
  have h' : match run ps.length N.length F ds with
      | .ok t => ∀ v G' H', Stp G H G' H' → relO K mg H G' H' t v → Q v H'
      | .ex c => False ∧ ∀ G' H' cls dd, Stp G H G' H' → RX K mg G' H' c cls dd → (fun _ _ _ => False : XK) cls dd H'
      | .bad => False := by
    cases e : run ps.length N.length F ds with
    | ok t => rw [e] at h; exact h
    | ex c => rw [e] at h; exact h.1.elim
    | bad => rw [e] at h; exact h
  exact ⟨_, (hb cdv A outer s H E hr).run ⟨H, G, []⟩ rfl, G, args N.length ds, args_rep gh rs, out_run (X := (cxOf CX0 P w K mg base N qual (defScope st) f cdv A outer s H E).nox) (W := W0) (on := False) (a := ps.length) (E := fun _ _ _ => False) (fun z => z) (fun _ _ _ _ z => z) (by rw [← rs.len]; exact hl) h'⟩
/-- as the library's okX, in the air where an exception's context is None -/
theorem okN {x qual : Str} {st : Stmt} {f : Addr} {fd : FuncData} {N ps : List Str} {k : Nat} {sp : Sp} (F : Fun K x qual st f fd) (S : FnScope N ps (defScope st)) (len : ∀ vs H Q E, sp vs H Q E → vs.length = ps.length)
    (hbody : ∀ (cdv : Value) (A : Around) (outer : List Env) (s : Shared) (H : Hp) (vs : List V) (Q : VK) (E : XK), Room k (A.deeper (envOfC qual (defScope st) s.heap.objs.size f cdv)) → sp vs H Q E →
      ∃ t, PSs (cxOf (L2N.CX P w) P w K mg base N qual (defScope st) f cdv A outer s H E) (defBody st) t ∧ t { nx := fun _ H' => Q .non H', rt := Q } (L2.start N vs) H) : FnOk P w K mg base (L2N.CX P w) (k + 1) f fd ps sp := by
  obtain ⟨oc, od, kV, doc, pm, an, cdv, ct, osl, rfl, lk, hcd⟩ := F.ex
  exact fn_of lk hcd S len fun A outer s H vs Q E hr hsp => hbody cdv A outer s H vs Q E hr hsp
/-- a def that may raise -/
theorem fnX {x qual : Str} {st : Stmt} {f : Addr} {fd : FuncData} {N ps : List Str} {k : Nat} {F : En → Flw} (Fn : Fun K x qual st f fd) (S : FnScope N ps (defScope st))
    (hb : ∀ (cdv : Value) (A : Around) (outer : List Env) (s : Shared) (H : Hp) (E : XK), Room k (A.deeper (envOfC qual (defScope st) s.heap.objs.size f cdv)) → SS (cxOf (L2N.CX P w) P w K mg base N qual (defScope st) f cdv A outer s H E) ⟨True, fun cls d _ H' => E cls d H'⟩ [] (defBody st) F) :
    FnOk P w K mg base (L2N.CX P w) (k + 1) f fd ps (spP K mg True (run ps.length N.length F)) := by
  refine okN Fn S (fun vs H Q E h => spP_len h) (fun cdv A outer s H vs Q E hr hsp => ?_)
  have hl := spP_len hsp
  obtain ⟨G, ds, gh, rs, h⟩ := hsp
  exact ⟨_, (hb cdv A outer s H E hr).run ⟨H, G, []⟩ rfl, G, args N.length ds, args_rep gh rs, out_run (X := cxOf (L2N.CX P w) P w K mg base N qual (defScope st) f cdv A outer s H E) (W := ⟨True, fun cls d _ H' => E cls d H'⟩) (on := True) (a := ps.length) (E := E) (fun z => z) (fun _ _ _ _ z => z) (by rw [← rs.len]; exact hl) h⟩
end
/-- a def that may be called by its name -/
structure Cal (P : Program) (w : World) (K : PySem.W.Frag) (mg : Str → Option Value) (base : Heap) (CX : CXT) (on : Prop) (x : Str) (k : Nat) (F : List D → Res OT) : Prop where
  ex : ∃ f fd ps, FnOk P w K mg base CX k f fd ps (spP K mg on F) ∧ mg x = some (.ref f) ∧ PySem.W.keepIn K (.ref f) = true ∧ Binds K fd ps []
def call (F : List D → Res OT) (fs : En → Res (List D)) (ρ : En) : Res OT := (fs ρ).bind F
section
variable {X : Cx} {W : WW} {e : Expr} {es : List Expr} {fs : En → Res (List D)} {x : Str} {k : Nat} {p pos : Pos} {CX : CXT} {on : Prop} {F : List D → Res OT}
theorem EO.call (c : Cal X.prog X.w X.K X.mg X.base CX on x k F) (hr : Room k X.A) (hx : ∀ σ, PassesAt CX X σ (WE W.w σ)) (hon : W.on → on) (ha : EA X W (e :: es) fs) (hg : Gl X x := by rfl) (hdb : (x == ("__debug__" : Str)) = false := by decide)
    (he : starEach (e :: es) X.env = (false, eval e X.env) :: starEach es X.env := by rfl) (hpl : (backTo pos (starEach es X.env)).any (·.1) = false := by rfl) : EO X W (.Call (.Name x p) (e :: es) [] pos) (call F fs) := ⟨fun B => by
  obtain ⟨f, fd, ps, hf, hm, hk, hb⟩ := c.ex
  refine PE.mono (pe_callS (E := WE W.w) hf hr hg hm hk hb hx (ha.run B) hdb he hpl) fun σ H Q ⟨G, ρ, r, h⟩ => ?_
  refine lift.next (rel := relL X.K X.mg) (g := fun ds _ => F ds) later_O r h fun ds vs G1 H1 r1 s1 q1 w1 => ⟨G1, ds, r1.gh, q1, ?_⟩
  cases e : F ds with
  | ok t => rw [e] at w1; exact w1
  | ex c => rw [e] at w1; exact ⟨hon w1.1, w1.2⟩
  | bad => rw [e] at w1; exact w1⟩
end
/-- no exception leaves -/
theorem px0 {X : Cx} {W : WW} : ∀ σ, PassesAt CX0 X σ (WE W.w σ) := fun _ _ _ _ _ _ _ h => h.elim
theorem no_on : (W0 : WW).on → False := fun z => z
/-- the law's promise -/
def spLaw (K : PySem.W.Frag) : Sp := fun vs H Q _ => ∃ (a : Addr) (ns : List Int), vs = [.ref a] ∧ SqL K H a (ns.map V.int) ∧ ns.length ≤ 63 ∧ ∀ H', Q (.bl true) H'
/-- the law, called with the script -/
theorem sp_law {K : PySem.W.Frag} {mg : Str → Option Value} {on : Prop} {F : List D → Res OT} {a : Addr} {ns : List Int} {H : Hp} {Q : VK} {E : XK} (h : F [.scr ns] = .ok (.d (.bl true))) (hs : SqL K H a (ns.map V.int)) (q : ∀ H', Q (.bl true) H') : spP K mg on F [.ref a] H Q E :=
  ⟨H, [.scr ns], Same.refl _, ⟨.ref a, [], rfl, ⟨a, rfl, hs⟩, rfl⟩, by
    rw [h]
    intro v G' H' s ⟨fp, r, _⟩
    unfold RO at r
    have : v = .bl true := r.2
    rw [this]
    exact q H'⟩
theorem law_fn {P : Program} {w : World} {K : PySem.W.Frag} {mg : Str → Option Value} {base : Heap} {CX : CXT} {on : Prop} {k : Nat} {f : Addr} {fd : FuncData} {ps : List Str} {F : List D → Res OT} (h : FnOk P w K mg base CX k f fd ps (spP K mg on F)) (hF : ∀ ns : List Int, ns.length ≤ 63 → F [.scr ns] = .ok (.d (.bl true))) :
    FnOk P w K mg base CX k f fd ps (spLaw K) := h.imp fun vs H Q E ⟨a, ns, e, hs, hl, q⟩ => by
  rw [e]
  exact sp_law (hF ns hl) hs q
end FL
/-! The functional layer, part J: owned things changed. -/
namespace FL
open PySem PySem.Spec PyProof.Rows L2
section
variable {K : PySem.W.Frag} {mg : Str → Option Value} {B : Bs} {G H G' H' : Hp} {σ : L2.St} {ρ : En}
theorem upd_live {a p : Addr} {o : HO} (h : H p ≠ none) : upd H a o p ≠ none := by
  by_cases e : p = a
  · rw [e, upd_same]; exact fun z => nomatch z
  · rw [upd_ne e]; exact h
theorem put_core {F : Nat → List Addr} {i : Nat} {t t' : OT} {v : V} {a : Addr} {o : HO} {fp' : List Addr} (g : Gr B G H σ) (hlen : ρ.length = σ.length) (f : Slots K mg B G H σ ρ F) (e : ρ[i]? = some (some t)) (hv : σ[i]? = some (some v)) (ha : a ∈ F i)
    (h : RO K mg G (upd H a o) t' v fp') (nd : fp'.Nodup) (sub : ∀ p ∈ fp', p ∈ F i ∨ (H p ≠ none ∧ G p = none ∧ B.O p = none ∧ ∀ j, p ∉ F j)) : Rep K mg B G (upd H a o) σ (ρ.set i (some t')) := by
  obtain ⟨la, ga, oa⟩ := f.at_ i a ha
  refine ⟨⟨fun p x q => ?_, fun p x q => ?_, g.g0, g.og, g.io⟩, by rw [List.length_set]; exact hlen, fun j => if j = i then fp' else F j, fun j u q => ?_, fun j => ?_, fun j p hp => ?_, fun j k p ne hp hk => ?_⟩
  · rw [upd_ne (fun z => by rw [z, ga] at q; cases q)]; exact g.gh p x q
  · rw [upd_ne (fun z => by rw [z, oa] at q; cases q)]; exact g.oh p x q
  · rcases get_set q with ⟨e1, hl, e2⟩ | ⟨ne, q⟩
    · subst e1; cases e2
      refine ⟨v, hv, ?_⟩
      rw [if_pos rfl]; exact h
    · obtain ⟨w, x, y⟩ := f.rep j u q
      refine ⟨w, x, ?_⟩
      rw [if_neg (fun z => ne z.symm)]
      exact y.frame (Same.refl _) fun p hp => upd_ne (fun z => f.dj j i p (fun z => ne z.symm) hp (z ▸ ha))
  · (try dsimp only); split
    · exact nd
    · exact f.nd j
  · (try dsimp only at hp); split at hp
    · rcases sub p hp with hp | ⟨x, y, z, _⟩
      · exact ⟨upd_live (f.at_ i p hp).1, (f.at_ i p hp).2⟩
      · exact ⟨upd_live x, y, z⟩
    · exact ⟨upd_live (f.at_ j p hp).1, (f.at_ j p hp).2⟩
  · (try dsimp only at hp hk)
    by_cases h1 : j = i
    · by_cases h2 : k = i
      · exact ne (h1.trans h2.symm)
      · rw [if_pos h1] at hp; rw [if_neg h2] at hk
        rcases sub p hp with hp | ⟨_, _, _, n⟩
        · exact f.dj i k p (fun z => h2 z.symm) hp hk
        · exact n k hk
    · rw [if_neg h1] at hp
      by_cases h2 : k = i
      · rw [if_pos h2] at hk
        rcases sub p hk with hk | ⟨_, _, _, n⟩
        · exact f.dj j i p h1 hp hk
        · exact n j hp
      · rw [if_neg h2] at hk
        exact f.dj j k p ne hp hk
theorem ROs.at : ∀ {ts : List OT} {vs : List V} {fs : List Addr} {j : Nat} {t : OT}, ROs K mg G H ts vs fs → ts[j]? = some t → ∃ v f1 fj f2, vs[j]? = some v ∧ fs = f1 ++ (fj ++ f2) ∧ RO K mg G H t v fj ∧
    ∀ G' H' t' v' fj', Same G G' → (∀ p, p ∈ f1 ∨ p ∈ f2 → H' p = H p) → RO K mg G' H' t' v' fj' → ROs K mg G' H' (ts.set j t') (vs.set j v') (f1 ++ (fj' ++ f2))
  | [], _, _, _, _, _, h => by simp at h
  | t :: ts, _, _, 0, u, ⟨v, r, f1, f2, e, e2, h, q⟩, eq => by
    simp at eq; subst eq e e2
    exact ⟨v, [], f1, f2, rfl, rfl, h, fun G' H' t' v' fj' g fr h' => ⟨v', r, fj', f2, rfl, rfl, h', q.frame g fun p hp => fr p (.inr hp)⟩⟩
  | t :: ts, _, _, j + 1, u, ⟨v, r, f1, f2, e, e2, h, q⟩, eq => by
    simp at eq; subst e e2
    obtain ⟨w, g1, gj, g2, a, b, c, d⟩ := ROs.at q eq
    refine ⟨w, f1 ++ g1, gj, g2, by simpa using a, by rw [b, List.append_assoc], c, fun G' H' t' v' fj' g fr h' => ⟨v, _, f1, g1 ++ (fj' ++ g2), rfl, by rw [List.append_assoc], h.frame g fun p hp => fr p (.inl (List.mem_append_left _ hp)), d G' H' t' v' fj' g (fun p hp => fr p ?_) h'⟩⟩
    rcases hp with hp | hp
    · exact .inl (List.mem_append_right _ hp)
    · exact .inr hp
/-- an owned list in a slot -/
theorem Rep.lst {i : Nat} {ts : List OT} (r : Rep K mg B G H σ ρ) (e : ρ[i]? = some (some (.lst ts))) : ∃ a vs fs, σ[i]? = some (some (.ref a)) ∧ ts.length ≤ sizeLine ∧ H a = some (.lst vs) ∧ ROs K mg G H ts vs fs ∧ (a :: fs).Nodup ∧
    ∀ o t' fp', RO K mg G (upd H a o) t' (.ref a) fp' → fp'.Nodup → (∀ p ∈ fp', p ∈ a :: fs) → Rep K mg B G (upd H a o) σ (ρ.set i (some t')) := by
  obtain ⟨F, f⟩ := r.sl
  obtain ⟨v, hv, hr⟩ := f.rep i _ e
  obtain ⟨a, vs, fs, rfl, e2, l, ha, ro⟩ := id hr
  refine ⟨a, vs, fs, hv, l, ha, ro, by rw [← e2]; exact f.nd i, fun o t' fp' h nd sub => put_core r.g r.len f e hv (by rw [e2]; exact List.mem_cons_self) h nd fun p hp => .inl (by rw [e2]; exact sub p hp)⟩
/-- .. and one of its own lists -/
theorem Rep.lst2 {i j : Nat} {ts us : List OT} (r : Rep K mg B G H σ ρ) (e : ρ[i]? = some (some (.lst ts))) (ej : ts[j]? = some (.lst us)) : ∃ a vs b ws gs, σ[i]? = some (some (.ref a)) ∧ H a = some (.lst vs) ∧ vs.length = ts.length ∧ vs[j]? = some (.ref b) ∧ us.length ≤ sizeLine ∧ H b = some (.lst ws) ∧ ROs K mg G H us ws gs ∧ (b :: gs).Nodup ∧
    ∀ o t' fp', RO K mg G (upd H b o) t' (.ref b) fp' → fp'.Nodup → (∀ p ∈ fp', p ∈ b :: gs) → Rep K mg B G (upd H b o) σ (ρ.set i (some (.lst (ts.set j t')))) := by
  obtain ⟨F, f⟩ := r.sl
  obtain ⟨v, hv, hr⟩ := f.rep i _ e
  obtain ⟨a, vs, fs, rfl, e2, l, ha, ro⟩ := id hr
  obtain ⟨w, f1, fj, f2, hw, ef, rj, back⟩ := ro.at ej
  obtain ⟨b, ws, gs, rfl, eb, lb, hb, rb⟩ := id rj
  have nd := f.nd i
  rw [e2, ef, eb] at nd
  rw [List.nodup_cons, List.nodup_append, List.nodup_append] at nd
  obtain ⟨na, n1, ⟨nb, n2, d2⟩, d1⟩ := nd
  have bF : b ∈ F i := by rw [e2, ef, eb]; simp
  have nab : a ≠ b := fun z => na (by rw [z]; simp)
  refine ⟨a, vs, b, ws, gs, hv, ha, ro.len, hw, lb, hb, rb, nb, fun o t' fp' h nd' sub => ?_⟩
  have sv : vs.set j (.ref b) = vs := by
    apply List.ext_getElem?
    intro k
    by_cases hk : j = k
    · subst hk
      have := (List.getElem?_eq_some_iff.mp hw).1
      rw [List.getElem?_set_self this, hw]
    · rw [List.getElem?_set_ne hk]
  refine put_core (fp' := a :: (f1 ++ (fp' ++ f2))) r.g r.len f e hv bF ?_ ?_ fun p hp => .inl ?_
  · refine ⟨a, vs, f1 ++ (fp' ++ f2), rfl, rfl, by rw [List.length_set]; exact l, by rw [upd_ne nab]; exact ha, ?_⟩
    have q := back G (upd H b o) t' (.ref b) fp' (Same.refl _) (fun p hp => upd_ne fun z => ?_) h
    · rw [sv] at q; exact q
    · rcases hp with hp | hp
      · exact d1 p hp b (by simp) z
      · exact d2 b (by simp) p hp z.symm
  · rw [List.nodup_cons, List.nodup_append, List.nodup_append]
    refine ⟨fun hp => ?_, n1, ⟨nd', n2, fun p hp q hq => d2 p (sub p hp) q hq⟩, fun p hp q hq => ?_⟩
    · rcases List.mem_append.mp hp with hp | hp
      · exact na (List.mem_append_left _ hp)
      · rcases List.mem_append.mp hp with hp | hp
        · exact na (List.mem_append_right _ (List.mem_append_left _ (sub a hp)))
        · exact na (List.mem_append_right _ (List.mem_append_right _ hp))
    · rcases List.mem_append.mp hq with hq | hq
      · exact d1 p hp q (List.mem_append_left _ (sub q hq))
      · exact d1 p hp q (List.mem_append_right _ hq)
  · rw [e2, ef, eb]
    rcases List.mem_cons.mp hp with rfl | hp
    · simp
    · rcases List.mem_append.mp hp with hp | hp
      · exact List.mem_cons_of_mem _ (List.mem_append_left _ hp)
      · rcases List.mem_append.mp hp with hp | hp
        · exact List.mem_cons_of_mem _ (List.mem_append_right _ (List.mem_append_left _ (sub p hp)))
        · exact List.mem_cons_of_mem _ (List.mem_append_right _ (List.mem_append_right _ hp))
end
/-! ### x.extend(y), y a list or a tuple -/
theorem list_extend_tup (l : Addr) (items : Array Value) (n : Nat) (b : Addr) (od : Option Addr) (sl : Array (Option Value)) (items2 : Array Value) (n2 : Nat) (hs0 : ¬(!items.isEmpty && Builtin.List.listTooLong (items.size + items2.size)) = true) (hs1 : items.size ≤ sizeLine) (hs2 : items.size + items2.size ≤ sizeLine + 1) :
    Meets (Builtin.«list.extend» ⟨[.ref l, .ref b], []⟩) (fun _ R s => s.heap.get? l = some { cls := .type "list", dict := none, data := .seq items n, slots := #[] } ∧ s.heap.get? b = some { cls := .type "tuple", dict := od, data := .seq items2 n2, slots := sl } ∧ R (.ok (.ret Value.none)) { s with heap := s.heap.update l (Obj.mapSeq fun x => x ++ items2), toks := s.toks }) :=
  .of_wp fun prog w A R s h => by
    obtain ⟨hp, g, d, tk, os⟩ := s; obtain ⟨hl, hb, h⟩ := h; have f1 := AutoSeq1.idx_int; have f2 := AutoSeq1.sub_tuple_tuple; have f3 := AutoSeq1.sub_list_list; have f4 := AutoSeq1.sub_tuple_list; have f5 := AutoSeq1.sub_list_tuple
    have hz' : (items ++ items2).size ≤ sizeLine + 1 := by rw [Array.size_append]; exact hs2
    wp_walk using (wpAny_updateSeq hl rfl (hz := hs1) (_hz' := hz')), AutoSeq1.wpAny_loadPart' hl, AutoSeq1.wpAny_loadPart' hb; exact ⟨_, rfl, h⟩
def rExt2 (K : PySem.W.Frag) : V → List V → Hp → VK → Prop := fun x vs H Q => ∃ l b xs zs, x = .ref l ∧ vs = [.ref b] ∧ H l = some (.lst xs) ∧ (H b = some (.lst zs) ∨ SqT K H b zs) ∧ xs.length + zs.length ≤ sizeLine ∧ Q .non (upd H l (.lst (xs ++ zs)))
theorem mt_ext2 {X : Cx} : MtM X "list.extend" (rExt2 X.K) := by
  rintro pins s σ H x vs v us Q I rx rv ⟨l, b, xs, zs, rfl, rfl, hH, hB, hz, q⟩
  rcases hB with hB | hB
  · exact mt_extend pins s σ H _ _ v us Q I rx rv ⟨l, b, xs, zs, rfl, rfl, hH, hB, hz, q⟩
  · cases rx
    obtain ⟨u, rfl, ru⟩ := rv.one
    cases ru
    obtain ⟨z, its, n, r, hl, e⟩ := I.lstM hH
    obtain ⟨its2, r2, ⟨o2, e2, hc2, n2, hd2⟩, z2⟩ := I.tuple hB
    obtain ⟨oc, od, dt, sl⟩ := o2
    dsimp only at hc2 hd2
    subst hc2 hd2
    have hl2 := r2.length
    have hsz : its.toArray.size + its2.toArray.size ≤ sizeLine := by rw [List.size_toArray, List.size_toArray]; omega
    have hlong : ¬ (!its.toArray.isEmpty && Builtin.List.listTooLong (its.toArray.size + its2.toArray.size)) = true := by
      rw [notLongL hsz, Bool.and_false]
      exact Bool.false_ne_true
    refine call_meets PySem.F.slot_list_extend ⟨_, e, rfl⟩ PySem.F.entry_list_extend (PySem.F.args_list_extend_2 _ _)
      (list_extend_tup l its.toArray n b od sl its2.toArray n2 hlong (by rw [List.size_toArray]; omega) (by omega)) ⟨e, e2, ?_⟩
    refine ⟨.non, _, I.lset (its' := its ++ its2) hH e (by simp) (r.append r2) ?_, rfl, q⟩
    rw [List.length_append]
    omega
/-! ### statements -/
section
variable {X : Cx} {W : WW} {io : List Nat} {e ei ej : Expr} {f fi fj : En → Res D} {fo : En → Res OT} {pos ppos pos' apos cpos : Pos} {x : Str}
def app (i : Nat) (f : En → Res D) (ρ : En) : Flw := match ρ[i]? with
  | some (some (.lst ts)) => bindF (f ρ) ρ fun d => if ts.length < 16777216 then .nx (ρ.set i (some (.lst (ts ++ [.d d])))) else .bad
  | _ => .bad
theorem sz_lt {n : Nat} (h : n < 16777216) : n < sizeLine := by rw [sizeLine_eq]; exact h
theorem tyV_lst {K : PySem.W.Frag} {H : Hp} {a : Addr} {vs : List V} (h : H a = some (.lst vs)) : tyV K "list" (.ref a) H := .inl ⟨rfl, vs, SqL.of h⟩
theorem S1.app (i : Nat) (h : EF X W e f) (hN : X.N[i]? = some x := by rfl) (hv : Vis X.env.scope x := by first | exact Or.inl rfl | exact Or.inr (Or.inl rfl) | exact Or.inr (Or.inr rfl)) (hd : (x == ("__debug__" : Str)) = false := by decide) (hcd : (x == ("__classdict__" : Str)) = false := by decide)
    (hs : starEach [e] X.env = (false, eval e X.env) :: starEach [] X.env := by rfl) (hline : (apos.endLine == cpos.line) = true := by rfl)
    (hbase : attributeBase (.Name x ppos) "append" X.env (eval (.Name x ppos) X.env) = eval (.Name x ppos) X.env := by rfl)
    (hfew : ((backTo cpos (starEach [e] X.env)).all (fun x => !x.1) && (backToKw cpos (keywordEach [] X.env)).all (fun x => x.1.isSome) && decide ([e].length + ([] : List Keyword).length + (if ([] : List Keyword).isEmpty then 0 else 1) < 30)) = true := by rfl)
    (hsw : swapsWith (.Call (.Attribute (.Name x ppos) "append" apos) [e] [] cpos) none pos.line X.env = pure false := by rfl) :
    S1 X W io (.Expr (.Call (.Attribute (.Name x ppos) "append" apos) [e] [] cpos) pos) (app i f) := ⟨fun B hB =>
  PS.mono (ps_expr (pe_bm PySem.F.plainAttrs_list PySem.F.slot_list_append PySem.F.type_list_append mt_append (pe_var (i := i) hN hv hd hcd) (pa_cons (h.run B) pa_nil hs) hbase hfew hline hs (by rfl)) hsw) fun N σ H ⟨G, ρ, r, h⟩ => by
    unfold FL.app at h
    split at h
    · rename_i ts es
      obtain ⟨a, vs, fs, hv, l, ha, ro, nd, back⟩ := r.lst es
      refine ⟨.ref a, hv, tyV_lst ha, lift.of r h fun d y G1 H1 r1 s1 q1 o => ?_⟩
      obtain ⟨a', vs', fs', hv', l', ha', ro', nd', back'⟩ := r1.lst es
      rw [hv] at hv'
      cases hv'
      split at o
      · rename_i hl
        refine ⟨a, vs', y, rfl, rfl, ha', by rw [ro'.len]; exact sz_lt hl, o _ _ _ (back' _ _ (a :: fs') ?_ nd' fun p hp => hp)⟩
        refine ⟨a, _, fs', rfl, rfl, by rw [List.length_append]; exact sz_lt hl, upd_same, ?_⟩
        have q := ROs.append (ro'.frame (Same.refl _) (H' := upd H1 a (.lst (vs' ++ [y]))) fun p hp => upd_ne fun z => (List.nodup_cons.mp nd').1 (z ▸ hp)) (ROs.one (RO.dd (H := upd H1 a (.lst (vs' ++ [y]))) q1))
        rw [List.append_nil] at q
        exact q
      · exact o.elim
    · exact h.elim⟩
def ext (i : Nat) (f : En → Res D) (ρ : En) : Flw := match ρ[i]? with
  | some (some (.lst ts)) => bindF (f ρ) ρ fun d => match d with
    | .lst ds => if ts.length + ds.length ≤ 16777216 then .nx (ρ.set i (some (.lst (ts ++ ds.map .d)))) else .bad
    | .tup ds => if ts.length + ds.length ≤ 16777216 then .nx (ρ.set i (some (.lst (ts ++ ds.map .d)))) else .bad
    | _ => .bad
  | _ => .bad
theorem S1.ext (i : Nat) (h : EF X W e f) (hN : X.N[i]? = some x := by rfl) (hv : Vis X.env.scope x := by first | exact Or.inl rfl | exact Or.inr (Or.inl rfl) | exact Or.inr (Or.inr rfl)) (hd : (x == ("__debug__" : Str)) = false := by decide) (hcd : (x == ("__classdict__" : Str)) = false := by decide)
    (hs : starEach [e] X.env = (false, eval e X.env) :: starEach [] X.env := by rfl) (hline : (apos.endLine == cpos.line) = true := by rfl)
    (hbase : attributeBase (.Name x ppos) "extend" X.env (eval (.Name x ppos) X.env) = eval (.Name x ppos) X.env := by rfl)
    (hfew : ((backTo cpos (starEach [e] X.env)).all (fun x => !x.1) && (backToKw cpos (keywordEach [] X.env)).all (fun x => x.1.isSome) && decide ([e].length + ([] : List Keyword).length + (if ([] : List Keyword).isEmpty then 0 else 1) < 30)) = true := by rfl)
    (hsw : swapsWith (.Call (.Attribute (.Name x ppos) "extend" apos) [e] [] cpos) none pos.line X.env = pure false := by rfl) :
    S1 X W io (.Expr (.Call (.Attribute (.Name x ppos) "extend" apos) [e] [] cpos) pos) (ext i f) := ⟨fun B hB =>
  PS.mono (ps_expr (pe_bm PySem.F.plainAttrs_list PySem.F.slot_list_extend PySem.F.type_list_extend mt_ext2 (pe_var (i := i) hN hv hd hcd) (pa_cons (h.run B) pa_nil hs) hbase hfew hline hs (by rfl)) hsw) fun N σ H ⟨G, ρ, r, h⟩ => by
    unfold FL.ext at h
    split at h
    · rename_i ts es
      obtain ⟨a, vs, fs, hv, l, ha, ro, nd, back⟩ := r.lst es
      refine ⟨.ref a, hv, tyV_lst ha, lift.of r h fun d y G1 H1 r1 s1 q1 o => ?_⟩
      obtain ⟨a', vs', fs', hv', l', ha', ro', nd', back'⟩ := r1.lst es
      rw [hv] at hv'
      cases hv'
      split at o
      · rename_i ds
        split at o
        · rename_i hl
          obtain ⟨b, us, rfl, lb, hb, qb⟩ := R.lst q1
          have hab : a ≠ b := fun z => by
            have hg : G1 a = none := by
              obtain ⟨F, f⟩ := r1.sl
              obtain ⟨v, x1, x2⟩ := f.rep i _ es
              obtain ⟨a2, _, _, x3, x4, _⟩ := x2
              rw [x3] at x1
              rw [hv] at x1
              cases x1
              exact (f.at_ i a (by rw [x4]; exact List.mem_cons_self)).2.1
            rw [z, hb] at hg; cases hg
          refine ⟨a, b, vs', us, rfl, rfl, ha', .inl (r1.gh _ _ hb), by rw [ro'.len, qb.len]; exact sz_le hl, o _ _ _ (back' _ _ (a :: fs') ?_ nd' fun p hp => hp)⟩
          refine ⟨a, _, fs', rfl, rfl, by rw [List.length_append, List.length_map]; exact sz_le hl, upd_same, ?_⟩
          have q := ROs.append (ro'.frame (Same.refl _) (H' := upd H1 a (.lst (vs' ++ us))) fun p hp => upd_ne fun z => (List.nodup_cons.mp nd').1 (z ▸ hp)) (ROs.dds (H := upd H1 a (.lst (vs' ++ us))) qb)
          rw [List.append_nil] at q
          exact q
        · exact o.elim
      · rename_i ds
        split at o
        · rename_i hl
          obtain ⟨b, us, rfl, lb, hb, qb⟩ := R.tup q1
          have hab : a ≠ b := fun z => by
            have hg : G1 a = none := by
              obtain ⟨F, f⟩ := r1.sl
              obtain ⟨v, x1, x2⟩ := f.rep i _ es
              obtain ⟨a2, _, _, x3, x4, _⟩ := x2
              rw [x3] at x1
              rw [hv] at x1
              cases x1
              exact (f.at_ i a (by rw [x4]; exact List.mem_cons_self)).2.1
            rw [z, hb] at hg; cases hg
          refine ⟨a, b, vs', us, rfl, rfl, ha', .inr (SqT.of (r1.gh _ _ hb)), by rw [ro'.len, qb.len]; exact sz_le hl, o _ _ _ (back' _ _ (a :: fs') ?_ nd' fun p hp => hp)⟩
          refine ⟨a, _, fs', rfl, rfl, by rw [List.length_append, List.length_map]; exact sz_le hl, upd_same, ?_⟩
          have q := ROs.append (ro'.frame (Same.refl _) (H' := upd H1 a (.lst (vs' ++ us))) fun p hp => upd_ne fun z => (List.nodup_cons.mp nd').1 (z ▸ hp)) (ROs.dds (H := upd H1 a (.lst (vs' ++ us))) qb)
          rw [List.append_nil] at q
          exact q
        · exact o.elim
      · exact o.elim
    · exact h.elim⟩
def asN : D → Res Int
  | .int i => .ok i
  | _ => .bad
/-- x[i] = e, x an owned list -/
def setL (s : Nat) (fi f : En → Res D) (ρ : En) : Flw := match ρ[s]? with
  | some (some (.lst ts)) => bindF (f ρ) ρ fun d => bindF (fi ρ) ρ fun k => match k with
    | .int k => match ixN ts.length k with
      | some j => .nx (ρ.set s (some (.lst (ts.set j (.d d)))))
      | none => .bad
    | _ => .bad
  | _ => .bad
theorem S1.setL (s : Nat) (h : EF X W e f) (hi : EF X W ei fi) (hN : X.N[s]? = some x := by rfl) (hv : Vis X.env.scope x := by first | exact Or.inl rfl | exact Or.inr (Or.inl rfl) | exact Or.inr (Or.inr rfl)) (hd : (x == ("__debug__" : Str)) = false := by decide) (hcd : (x == ("__classdict__" : Str)) = false := by decide)
    (ha : ∀ v, assign (.Subscript (.Name x ppos) ei pos') X.env v = (do
      let ov ← holding [v] (eval (.Name x ppos) X.env)
      let iv ← holding [v, ov] (eval ei X.env)
      standAt pos'
      holding [v, ov, iv] (setItem ov iv v)
      release [v, ov, iv] []) := by intro _; rfl)
    (hs : swapsWithSole [.Subscript (.Name x ppos) ei pos'] e pos.line X.env = pure false := by rfl) (hw : swappedStores [.Subscript (.Name x ppos) ei pos'] e X.env = pure none := by rfl)
    (h1 : (assignEach [.Subscript (.Name x ppos) ei pos'] X.env).map (·.2) = [assign (.Subscript (.Name x ppos) ei pos') X.env] := by rfl) :
    S1 X W io (.Assign [.Subscript (.Name x ppos) ei pos'] e pos) (setL s fi f) := ⟨fun B hB =>
  PS.mono (ps_asg (h.run B) (pg_sub (pe_var (i := s) hN hv hd hcd) (hi.run B) set_list ha) hs hw h1) fun N σ H ⟨G, ρ, r, h⟩ => by
    unfold FL.setL at h
    split at h
    · rename_i ts es
      refine lift.of r h fun d y G1 H1 r1 s1 q1 o => ?_
      obtain ⟨a, vs, fs, hv, l, hH, ro, nd, back⟩ := r1.lst es
      refine ⟨.ref a, hv, lift.of r1 o fun k z G2 H2 r2 s2 q2 o2 => ?_⟩
      obtain ⟨a', vs', fs', hv', l', ha', ro', nd', back'⟩ := r2.lst es
      rw [hv] at hv'
      cases hv'
      split at o2
      · rename_i k
        split at o2
        · rename_i j hj
          have hjl : j < ts.length := (ixN_seq hj).2.1
          obtain ⟨w, f1, g, f2, hw, ef, rj, bk⟩ := ro'.at (List.getElem?_eq_getElem hjl)
          cases q2
          refine ⟨a, vs', k, j, rfl, rfl, ha', by rw [ro'.len]; exact hj, o2 _ _ _ (back' _ _ (a :: (f1 ++ ([] ++ f2))) ?_ ?_ fun p hp => ?_)⟩
          · refine ⟨a, _, _, rfl, rfl, by rw [List.length_set]; exact l', upd_same, bk G2 _ (.d d) y [] (Same.refl _) (fun p hp => upd_ne fun z => ?_) (RO.dd (R.mono s2.gg q1))⟩
            refine (List.nodup_cons.mp nd').1 ?_
            rw [ef, ← z]
            rcases hp with hp | hp
            · exact List.mem_append_left _ hp
            · exact List.mem_append_right _ (List.mem_append_right _ hp)
          · rw [ef] at nd'
            refine nd'.sublist (List.Sublist.cons_cons _ ?_)
            exact List.Sublist.append (List.Sublist.refl _) (List.sublist_append_right _ _)
          · rw [ef]
            rcases List.mem_cons.mp hp with rfl | hp
            · exact List.mem_cons_self
            · refine List.mem_cons_of_mem _ ?_
              rcases List.mem_append.mp hp with hp | hp
              · exact List.mem_append_left _ hp
              · exact List.mem_append_right _ (List.mem_append_right _ hp)
        · exact o2.elim
      · exact o2.elim
    · exact h.elim⟩
/-- x[i][j] = e, x an owned list of owned lists -/
def setLL (s : Nat) (fi fj f : En → Res D) (ρ : En) : Flw := match ρ[s]? with
  | some (some (.lst ts)) => bindF (f ρ) ρ fun d => bindF (fi ρ) ρ fun k => match k with
    | .int k => match ixN ts.length k with
      | some j => match ts[j]? with
        | some (.lst us) => bindF (fj ρ) ρ fun k2 => match k2 with
          | .int k2 => match ixN us.length k2 with
            | some j2 => .nx (ρ.set s (some (.lst (ts.set j (.lst (us.set j2 (.d d)))))))
            | none => .bad
          | _ => .bad
        | _ => .bad
      | none => .bad
    | _ => .bad
  | _ => .bad
theorem S1.setLL (s : Nat) {pm : Pos} (h : EF X W e f) (hi : EF X W ei fi) (hj : EF X W ej fj) (hN : X.N[s]? = some x := by rfl) (hv : Vis X.env.scope x := by first | exact Or.inl rfl | exact Or.inr (Or.inl rfl) | exact Or.inr (Or.inr rfl)) (hd : (x == ("__debug__" : Str)) = false := by decide) (hcd : (x == ("__classdict__" : Str)) = false := by decide)
    (hpl : PlainIx ei := by intro _ _; rfl)
    (ha : ∀ v, assign (.Subscript (.Subscript (.Name x ppos) ei pm) ej pos') X.env v = (do
      let ov ← holding [v] (eval (.Subscript (.Name x ppos) ei pm) X.env)
      let iv ← holding [v, ov] (eval ej X.env)
      standAt pos'
      holding [v, ov, iv] (setItem ov iv v)
      release [v, ov, iv] []) := by intro _; rfl)
    (hs : swapsWithSole [.Subscript (.Subscript (.Name x ppos) ei pm) ej pos'] e pos.line X.env = pure false := by rfl) (hw : swappedStores [.Subscript (.Subscript (.Name x ppos) ei pm) ej pos'] e X.env = pure none := by rfl)
    (h1 : (assignEach [.Subscript (.Subscript (.Name x ppos) ei pm) ej pos'] X.env).map (·.2) = [assign (.Subscript (.Subscript (.Name x ppos) ei pm) ej pos') X.env] := by rfl) :
    S1 X W io (.Assign [.Subscript (.Subscript (.Name x ppos) ei pm) ej pos'] e pos) (setLL s fi fj f) := ⟨fun B hB =>
  PS.mono (ps_asg (h.run B) (pg_sub (pe_ix ix_list (pe_var (i := s) hN hv hd hcd) (hi.run B) hpl) (hj.run B) set_list ha) hs hw h1) fun N σ H ⟨G, ρ, r, h⟩ => by
    unfold FL.setLL at h
    split at h
    · rename_i ts es
      refine lift.of r h fun d y G1 H1 r1 s1 q1 o => ?_
      obtain ⟨a, vs, fs, hv, l, hH, ro, nd, back⟩ := r1.lst es
      refine ⟨.ref a, hv, lift.of r1 o fun k z G2 H2 r2 s2 q2 o2 => ?_⟩
      split at o2
      · rename_i k
        split at o2
        · rename_i j hj
          split at o2
          · rename_i us eu
            obtain ⟨a2, vs2, b, ws, gs, hv2, ha2, hl2, hb2, lu, hb, rb, nb, back2⟩ := r2.lst2 es eu
            rw [hv] at hv2
            cases hv2
            cases q2
            refine ⟨a, vs2, k, .ref b, rfl, rfl, SqL.of ha2, ?_, lift.of r2 o2 fun k2 z2 G3 H3 r3 s3 q3 o3 => ?_⟩
            · unfold L2.atI
              rw [hl2, hj]
              exact hb2
            · obtain ⟨a3, vs3, b3, ws3, gs3, hv3, ha3, hl3, hb3, lu3, hbb3, rb3, nb3, back3⟩ := r3.lst2 es eu
              rw [hv] at hv3
              cases hv3
              have evs := s3.hh _ _ ha2
              rw [ha3] at evs
              cases evs
              rw [hb2] at hb3
              cases hb3
              split at o3
              · rename_i k2
                split at o3
                · rename_i j2 hj2
                  have hjl : j2 < us.length := (ixN_seq hj2).2.1
                  obtain ⟨w, f1, g, f2, hw, ef, rj, bk⟩ := rb3.at (List.getElem?_eq_getElem hjl)
                  cases q3
                  refine ⟨b, ws3, k2, j2, rfl, rfl, hbb3, by rw [rb3.len]; exact hj2, o3 _ _ _ (back3 _ _ (b :: (f1 ++ ([] ++ f2))) ?_ ?_ fun p hp => ?_)⟩
                  · refine ⟨b, _, _, rfl, rfl, by rw [List.length_set]; exact lu3, upd_same, bk G3 _ (.d d) y [] (Same.refl _) (fun p hp => upd_ne fun z => ?_) (RO.dd (R.mono (s2.gg.trans s3.gg) q1))⟩
                    refine (List.nodup_cons.mp nb3).1 ?_
                    rw [ef, ← z]
                    rcases hp with hp | hp
                    · exact List.mem_append_left _ hp
                    · exact List.mem_append_right _ (List.mem_append_right _ hp)
                  · rw [ef] at nb3
                    refine nb3.sublist (List.Sublist.cons_cons _ ?_)
                    exact List.Sublist.append (List.Sublist.refl _) (List.sublist_append_right _ _)
                  · rw [ef]
                    rcases List.mem_cons.mp hp with rfl | hp
                    · exact List.mem_cons_self
                    · refine List.mem_cons_of_mem _ ?_
                      rcases List.mem_append.mp hp with hp | hp
                      · exact List.mem_append_left _ hp
                      · exact List.mem_append_right _ (List.mem_append_right _ hp)
                · exact o3.elim
              · exact o3.elim
          · exact o2.elim
        · exact o2.elim
      · exact o2.elim
    · exact h.elim⟩
end
end FL
/-! The functional layer, part K: expressions that change what is owned; defs that change an argument. -/
namespace FL
open PySem PySem.Spec PyProof.Rows L2
inductive ResX where
  | ok (t : OT) (ρ : En) | ex (c : Exn) (ρ : En) | bad
def WrX (X : Cx) (W : WW) (B : Bs) (σ : L2.St) (r : ResX) (Q : VK) : Prop := match r with
  | .ok t ρ => ∀ v G' H', RepV X.K X.mg B G' H' σ ρ t v → Q v H'
  | .ex c ρ => W.on ∧ ∀ G' H' cls dd, Rep X.K X.mg B G' H' σ ρ → RX X.K X.mg G' H' c cls dd → W.w cls dd σ H'
  | .bad => False
/-- an expression that computes a thing and changes owned things -/
structure EX (X : Cx) (W : WW) (e : Expr) (f : En → ResX) : Prop where
  run : ∀ B, PE X e fun σ H Q => ∃ G ρ, Rep X.K X.mg B G H σ ρ ∧ WrX X W B σ (f ρ) Q
section
variable {K : PySem.W.Frag} {mg : Str → Option Value} {B : Bs} {G H G' H' : Hp} {σ : L2.St} {ρ : En} {t : OT} {v : V}
/-- a value that is the environment's own is frozen -/
theorem RepV.frozen (r : RepV K mg B G H σ ρ t v) : ∃ G', Rep K mg B G' H σ ρ ∧ R K mg G' (fz t) v := by
  obtain ⟨F, fv, f, h, nd, at_, dj⟩ := r.sl
  have g1 : Same G (fun p => if p ∈ fv then H p else G p) := fun p o q => by
    (try dsimp only); split
    · exact r.g.gh p o q
    · exact q
  refine ⟨fun p => if p ∈ fv then H p else G p, ⟨⟨fun p o q => ?_, r.g.oh, r.g.g0.trans g1, fun p q => ?_, r.g.io⟩, r.len, F, fun i u e => ?_, f.nd, fun i p hp => ⟨(f.at_ i p hp).1, ?_, (f.at_ i p hp).2.2⟩, f.dj⟩, h.fz g1 fun p hp => if_pos hp⟩
  · (try dsimp only at q); split at q
    · exact q
    · exact r.g.gh p o q
  · (try dsimp only); split
    · rename_i hp; exact absurd (at_ p hp).2.2 q
    · exact r.g.og p q
  · obtain ⟨w, a, b⟩ := f.rep i u e
    exact ⟨w, a, b.frame g1 fun p _ => rfl⟩
  · (try dsimp only)
    rw [if_neg (fun z => dj i p z hp)]
    exact (f.at_ i p hp).2.1
end
section
variable {X : Cx} {W : WW} {io : List Nat} {e a b : Expr} {es : List Expr} {f fb : En → Res D} {fx : En → ResX} {fs : En → Res (List D)} {pos ppos pos' apos cpos : Pos} {x : Str}
/-! statements with such expressions -/
def bindX (r : ResX) (k : OT → En → Flw) : Flw := match r with
  | .ok t ρ => k t ρ
  | .ex c ρ => .ex c ρ
  | .bad => .bad
theorem liftX.of {B : Bs} {N : Ends} {G H : Hp} {σ : L2.St} {ρ : En} {k : OT → En → Flw} {Q : VK} (rep : Rep X.K X.mg B G H σ ρ) (h : Out X W B N (bindX (fx ρ) k))
    (hk : ∀ t ρ' v G' H', RepV X.K X.mg B G' H' σ ρ' t v → Out X W B N (k t ρ') → Q v H') : ∃ G ρ, Rep X.K X.mg B G H σ ρ ∧ WrX X W B σ (fx ρ) Q := ⟨G, ρ, rep, by
  cases e : fx ρ with
  | ok t ρ' => rw [e] at h; exact fun v G' H' r => hk t ρ' v G' H' r h
  | ex c ρ' => rw [e] at h; exact ⟨h.1, fun G' H' cls dd r q => h.2 σ G' H' cls dd r q⟩
  | bad => rw [e] at h; exact h⟩
def drpX (fx : En → ResX) (ρ : En) : Flw := bindX (fx ρ) fun _ ρ' => .nx ρ'
theorem S1.dropX (h : EX X W e fx) (hs : swapsWith e none pos.line X.env = pure false := by rfl) : S1 X W io (.Expr e pos) (drpX fx) := ⟨fun B hB => PS.mono (ps_expr (h.run B) hs) fun N σ H ⟨G, ρ, r, h⟩ => liftX.of r h fun t ρ' v G' H' r' o => o _ _ _ r'.rep⟩
/-- the value frozen; owned -/
def asgX (i : Nat) (fx : En → ResX) (ρ : En) : Flw := bindX (fx ρ) fun t ρ' => .nx (ρ'.set i (some (.d (fz t))))
def asgXO (i : Nat) (fx : En → ResX) (ρ : En) : Flw := bindX (fx ρ) fun t ρ' => .nx (ρ'.set i (some t))
theorem S1.asgX (i : Nat) (h : EX X W e fx) (hN : X.N.Nodup) (hio : i ∉ io := by decide) (hi : X.N[i]? = some x := by rfl) (hx : Loc X.env.scope x := by first | exact .inl rfl | exact .inr rfl) (hs : swapsWith e (some (.Name x pos')) pos.line X.env = pure false := by rfl)
    (hf : X.fn x = true ∨ X.env.scope.names.lookup x = some .local := by first | exact .inl rfl | exact .inr rfl) : S1 X W io (.Assign [.Name x pos'] e pos) (asgX i fx) := ⟨fun B hB => PS.mono (ps_set hN hi hx (h.run B) hs hf) fun N σ H ⟨G, ρ, r, h⟩ =>
  liftX.of r h fun t ρ' v G' H' r' o => by
    obtain ⟨G2, r2, q⟩ := r'.frozen
    exact o _ _ _ ((r2.val q).set (io_ne hB hio))⟩
theorem S1.asgXO (i : Nat) (h : EX X W e fx) (hN : X.N.Nodup) (hio : i ∉ io := by decide) (hi : X.N[i]? = some x := by rfl) (hx : Loc X.env.scope x := by first | exact .inl rfl | exact .inr rfl) (hs : swapsWith e (some (.Name x pos')) pos.line X.env = pure false := by rfl)
    (hf : X.fn x = true ∨ X.env.scope.names.lookup x = some .local := by first | exact .inl rfl | exact .inr rfl) : S1 X W io (.Assign [.Name x pos'] e pos) (asgXO i fx) := ⟨fun B hB => PS.mono (ps_set hN hi hx (h.run B) hs hf) fun N σ H ⟨G, ρ, r, h⟩ =>
  liftX.of r h fun t ρ' v G' H' r' o => o _ _ _ (r'.set (io_ne hB hio))⟩
def retX (fx : En → ResX) (ρ : En) : Flw := bindX (fx ρ) fun t ρ' => .rt t ρ'
theorem S1.retX (h : EX X W e fx) : S1 X W io (.Return (some e) pos) (retX fx) := ⟨fun B hB => PS.mono (ps_ret (h.run B)) fun N σ H ⟨G, ρ, r, h⟩ => liftX.of r h fun t ρ' v G' H' r' o => o _ _ _ _ r'⟩
/-! operators over such an expression -/
def mapX (fx : En → ResX) (g : D → En → Res D) (ρ : En) : ResX := match fx ρ with
  | .ok t ρ' => match g (fz t) ρ' with
    | .ok d => .ok (.d d) ρ'
    | .ex c => .ex c ρ'
    | .bad => .bad
  | .ex c ρ' => .ex c ρ'
  | .bad => .bad
theorem mapX_next {B : Bs} {G H : Hp} {σ : L2.St} {ρ : En} {g : D → En → Res D} {Q : VK} {R' : VK} (r : Rep X.K X.mg B G H σ ρ) (h : WrX X W B σ (mapX fx g ρ) Q)
    (k : ∀ d v ρ' G1 H1, Rep X.K X.mg B G1 H1 σ ρ' → R X.K X.mg G1 d v → Wr X.K X.mg (relD X.K X.mg) W σ G1 H1 (g d ρ') (fun _ v _ H' => Q v H') → R' v H1) : ∃ G ρ, Rep X.K X.mg B G H σ ρ ∧ WrX X W B σ (fx ρ) R' := ⟨G, ρ, r, by
  unfold mapX at h
  cases e : fx ρ with
  | ok t ρ' =>
    rw [e] at h
    intro v G1 H1 r1
    obtain ⟨G2, r2, q⟩ := r1.frozen
    refine k _ v ρ' G2 H1 r2 q ?_
    dsimp only at h
    cases eg : g (fz t) ρ' with
    | ok d => rw [eg] at h; exact fun w G' H' s q' => h w G' H' ((r2.step s).val q')
    | ex c => rw [eg] at h; exact ⟨h.1, fun G' H' cls dd s q => h.2 G' H' cls dd (r2.step s) q⟩
    | bad => rw [eg] at h; exact h
  | ex c ρ' => rw [e] at h; exact h
  | bad => rw [e] at h; exact h⟩
def op2X (g : D → D → Option D) (fb : En → Res D) (d : D) (ρ : En) : Res D := (fb ρ).bind fun y => ofO (g d y)
theorem rD_next {B : Bs} {σ : L2.St} {H1 G1 : Hp} {ρ' : En} {Q : VK} {g : D → D → Option D} {d : D} {v : V} (r1 : Rep X.K X.mg B G1 H1 σ ρ') (q : R X.K X.mg G1 d v) (w : Wr X.K X.mg (relD X.K X.mg) W σ G1 H1 (op2X g fb d ρ') (fun _ v _ H' => Q v H')) :
    lift X W (relD X.K X.mg) B fb σ H1 fun y H2 => rD X g v y H2 Q :=
  lift.next (rel := relD X.K X.mg) (g := fun y _ => ofO (g d y)) later_D r1 w fun e y G2 H2 r2 s2 q2 w2 => by
    cases hg : g d e with
    | none => rw [hg] at w2; exact w2.elim
    | some c => rw [hg] at w2; exact ⟨G2, d, e, c, r2.gh, R.mono s2.gg q, q2, hg, w2⟩
theorem EX.bin {op : Operator} {g : D → D → Option D} (ho : OpD X (binaryOp op) g) (ha : EX X W a fx) (hb : EF X W b fb) : EX X W (.BinOp a op b pos) (mapX fx (op2X g fb)) := ⟨fun B => PE.mono (pe_op ho (ha.run B) (hb.run B)) fun σ H Q ⟨G, ρ, r, h⟩ =>
  mapX_next r h fun d v ρ' G1 H1 r1 q w => rD_next r1 q w⟩
theorem EX.ix (hu : X.A.units + 64 < cLine) (ha : EX X W a fx) (hb : EF X W b fb) (hs : PlainIx b := by intro _ _; rfl) : EX X W (.Subscript a b pos) (mapX fx (op2X ixD fb)) := ⟨fun B => PE.mono (pe_ix (ix_ok hu) (ha.run B) (hb.run B) hs) fun σ H Q ⟨G, ρ, r, h⟩ =>
  mapX_next r h fun d v ρ' G1 H1 r1 q w => rD_next r1 q w⟩
/-- x.pop() -/
def pop (i : Nat) (ρ : En) : ResX := match ρ[i]? with
  | some (some (.lst ts)) => match ts.getLast? with
    | some t => .ok t (ρ.set i (some (.lst ts.dropLast)))
    | none => .bad
  | _ => .bad
theorem ROs.last {K : PySem.W.Frag} {mg : Str → Option Value} {G H : Hp} : ∀ {ts : List OT} {vs : List V} {fs : List Addr} {t : OT}, ROs K mg G H ts vs fs → ts.getLast? = some t → ∃ v f1 f2, vs.getLast? = some v ∧ fs = f1 ++ f2 ∧ ROs K mg G H ts.dropLast vs.dropLast f1 ∧ RO K mg G H t v f2
  | [], _, _, _, _, h => by cases h
  | [t], _, _, u, ⟨v, r, f1, f2, e, e2, h, q⟩, eq => by
    cases eq
    obtain ⟨e3, e4⟩ := q
    subst e3 e4 e e2
    exact ⟨v, [], f1, rfl, by simp, ⟨rfl, rfl⟩, h⟩
  | t :: t2 :: ts, _, _, u, ⟨v, r, f1, f2, e, e2, h, q⟩, eq => by
    rw [List.getLast?_cons_cons] at eq
    obtain ⟨w, g1, g2, a, b, c, d⟩ := ROs.last q eq
    obtain ⟨v2, r2, _, _, e5, _⟩ := q
    subst e e2 e5
    refine ⟨w, f1 ++ g1, g2, by rw [List.getLast?_cons_cons]; exact a, by rw [b, List.append_assoc], ⟨v, _, f1, g1, rfl, rfl, h, ?_⟩, d⟩
    exact c
theorem EX.pop (i : Nat) (hN : X.N[i]? = some x := by rfl) (hv : Vis X.env.scope x := by first | exact Or.inl rfl | exact Or.inr (Or.inl rfl) | exact Or.inr (Or.inr rfl)) (hd : (x == ("__debug__" : Str)) = false := by decide) (hcd : (x == ("__classdict__" : Str)) = false := by decide)
    (hline : (apos.endLine == cpos.line) = true := by rfl) (hbase : attributeBase (.Name x ppos) "pop" X.env (eval (.Name x ppos) X.env) = eval (.Name x ppos) X.env := by rfl) :
    EX X W (.Call (.Attribute (.Name x ppos) "pop" apos) [] [] cpos) (pop i) := ⟨fun B => PE.mono (pe_bm0 PySem.F.plainAttrs_list PySem.F.slot_list_pop PySem.F.type_list_pop mt_pop (pe_var (i := i) hN hv hd hcd) hbase hline) fun σ H Q ⟨G, ρ, r, h⟩ => by
    unfold FL.pop at h
    split at h
    · rename_i ts es
      split at h
      · rename_i t et
        obtain ⟨F, f⟩ := r.sl
        obtain ⟨v, hv, hr⟩ := f.rep i _ es
        obtain ⟨a, vs, fs, rfl, e2, l, ha, ro⟩ := id hr
        obtain ⟨w, f1, f2, ew, ef, rd, rt⟩ := ro.last et
        have nd := f.nd i
        rw [e2, ef, List.nodup_cons, List.nodup_append] at nd
        obtain ⟨na, n1, n2, d12⟩ := nd
        refine ⟨.ref a, hv, tyV_lst ha, a, vs, w, rfl, rfl, ha, by rw [← List.getLast?_eq_getElem?]; exact ew, h w G _ ?_⟩
        -- the list without its last item; the item is the environment's own
        have aF : a ∈ F i := by rw [e2]; exact List.mem_cons_self
        have sub1 : ∀ p ∈ a :: f1, p ∈ F i := fun p hp => by
          rw [e2, ef]
          rcases List.mem_cons.mp hp with rfl | hp
          · exact List.mem_cons_self
          · exact List.mem_cons_of_mem _ (List.mem_append_left _ hp)
        have sub2 : ∀ p ∈ f2, p ∈ F i := fun p hp => by rw [e2, ef]; exact List.mem_cons_of_mem _ (List.mem_append_right _ hp)
        have fr1 : ∀ p ∈ f1, upd H a (.lst vs.dropLast) p = H p := fun p hp => upd_ne fun z => na (by rw [← z]; exact List.mem_append_left _ hp)
        have fr2 : ∀ p ∈ f2, upd H a (.lst vs.dropLast) p = H p := fun p hp => upd_ne fun z => na (by rw [← z]; exact List.mem_append_right _ hp)
        have hRO : RO X.K X.mg G (upd H a (.lst vs.dropLast)) (.lst ts.dropLast) (.ref a) (a :: f1) := ⟨a, _, f1, rfl, rfl, Nat.le_trans (by rw [List.length_dropLast]; omega) l, upd_same, rd.frame (Same.refl _) fr1⟩
        have hr2 := put_core r.g r.len f es hv aF hRO (List.nodup_cons.mpr ⟨fun hp => na (List.mem_append_left _ hp), n1⟩) (fun p hp => .inl (sub1 p hp))
        obtain ⟨la, ga, oa⟩ := f.at_ i a aF
        refine ⟨hr2.g, hr2.len, fun j => if j = i then a :: f1 else F j, f2, ⟨fun j u q => ?_, fun j => ?_, fun j p hp => ?_, fun j k p ne hp hk => ?_⟩, rt.frame (Same.refl _) fr2, n2, fun p hp => ⟨upd_live (f.at_ i p (sub2 p hp)).1, (f.at_ i p (sub2 p hp)).2⟩, fun j p hp hj => ?_⟩
        · rcases get_set q with ⟨e1, hl, e3⟩ | ⟨ne, q⟩
          · subst e1; cases e3
            refine ⟨.ref a, hv, ?_⟩
            rw [if_pos rfl]; exact hRO
          · obtain ⟨w, x1, y⟩ := f.rep j u q
            refine ⟨w, x1, ?_⟩
            rw [if_neg (fun z => ne z.symm)]
            exact y.frame (Same.refl _) fun p hp => upd_ne (fun z => f.dj j i p (fun z => ne z.symm) hp (z ▸ aF))
        · (try dsimp only); split
          · exact List.nodup_cons.mpr ⟨fun hp => na (List.mem_append_left _ hp), n1⟩
          · exact f.nd j
        · (try dsimp only at hp); split at hp
          · exact ⟨upd_live (f.at_ i p (sub1 p hp)).1, (f.at_ i p (sub1 p hp)).2⟩
          · exact ⟨upd_live (f.at_ j p hp).1, (f.at_ j p hp).2⟩
        · (try dsimp only at hp hk)
          have inF : ∀ {j : Nat}, p ∈ (if j = i then a :: f1 else F j) → p ∈ F j := fun {j} h => by
            by_cases z : j = i
            · rw [if_pos z] at h; rw [z]; exact sub1 p h
            · rw [if_neg z] at h; exact h
          exact f.dj j k p ne (inF hp) (inF hk)
        · (try dsimp only at hj)
          by_cases z : j = i
          · rw [if_pos z] at hj
            rcases List.mem_cons.mp hj with rfl | hj
            · exact na (List.mem_append_right _ hp)
            · exact d12 p hj p hp rfl
          · rw [if_neg z] at hj
            exact f.dj j i p z hj (sub2 p hp)
      · exact h.elim
    · exact h.elim⟩
end
/-! ### a def that changes the j-th of its arguments -/
def ins {α : Type} : Nat → α → List α → List α
  | 0, x, l => x :: l
  | _ + 1, x, [] => [x]
  | j + 1, x, y :: l => y :: ins j x l
inductive ResI where
  | ok (r t : OT) | ex (c : Exn) (t : OT) | bad
/-- what a def that changes its argument promises -/
def spI (K : PySem.W.Frag) (mg : Str → Option Value) (on : Prop) (j : Nat) (F : OT → List D → ResI) : Sp := fun vs H Q E => ∃ G t ds vj ws fp, Same G H ∧ Rs K mg G ds ws ∧ vs = ins j vj ws ∧ RO K mg G H t vj fp ∧ fp.Nodup ∧ (∀ p ∈ fp, G p = none) ∧ match F t ds with
  | .ok r t' => ∀ v G' H' fr ft, Same (fun p => if p ∈ fp then none else H p) H' → Same G G' → Same G' H' → (∀ p, H p ≠ none → p ∉ fp → G' p = G p) → RO K mg G' H' r v fr → RO K mg G' H' t' vj ft → (fr ++ ft).Nodup → (∀ p ∈ fr ++ ft, G' p = none ∧ (H p = none ∨ p ∈ fp)) → Q v H'
  | .ex c t' => on ∧ ∀ G' H' ft cls dd, Same (fun p => if p ∈ fp then none else H p) H' → Same G G' → Same G' H' → (∀ p, H p ≠ none → p ∉ fp → G' p = G p) → RO K mg G' H' t' vj ft → ft.Nodup → (∀ p ∈ ft, G' p = none ∧ (H p = none ∨ p ∈ fp)) → RX K mg G' H' c cls dd → E cls dd H'
  | .bad => False
def argsI (n j : Nat) (t : OT) (ds : List D) : En := ins j (some t) (ds.map fun d => some (.d d)) ++ List.replicate (n - (ds.length + 1)) none
def slotI (ρ : En) (j : Nat) (k : OT → ResI) : ResI := match ρ[j]? with
  | some (some t) => k t
  | _ => .bad
def finI (j : Nat) : Flw → ResI
  | .nx ρ => slotI ρ j fun t => .ok (.d .non) t
  | .rt r ρ => slotI ρ j fun t => .ok r t
  | .ex c ρ => slotI ρ j fun t => .ex c t
  | _ => .bad
def runI (a n j : Nat) (F : En → Flw) (t : OT) (ds : List D) : ResI := if ds.length + 1 = a ∧ j < a then finI j (F (argsI n j t ds)) else .bad
theorem ins_len {α : Type} (x : α) : ∀ (j : Nat) (l : List α), (ins j x l).length = l.length + 1
  | 0, l => rfl
  | _ + 1, [] => rfl
  | j + 1, y :: l => by rw [ins, List.length_cons, List.length_cons, ins_len x j l]
theorem ins_at {α : Type} (x : α) : ∀ (j : Nat) (l : List α), j ≤ l.length → (ins j x l)[j]? = some x
  | 0, l, _ => rfl
  | j + 1, [], h => by simp at h
  | j + 1, y :: l, h => by rw [ins, List.getElem?_cons_succ]; exact ins_at x j l (by simpa using h)
theorem ins_map {α β : Type} (g : α → β) (x : α) : ∀ (j : Nat) (l : List α), (ins j x l).map g = ins j (g x) (l.map g)
  | 0, l => rfl
  | _ + 1, [] => rfl
  | j + 1, y :: l => by rw [ins, List.map_cons, List.map_cons, ins, ins_map g x j l]
/-- the places of two lists with one more put in -/
theorem ins_rel {α β : Type} {x : α} {y : β} {P : α → β → Prop} : ∀ (j : Nat) {l : List α} {m : List β}, j ≤ l.length → l.length = m.length → (∀ (i : Nat) (a : α), l[i]? = some a → ∃ b, m[i]? = some b ∧ P a b) → ∀ (i : Nat) (a : α), (ins j x l)[i]? = some a → ∃ b, (ins j y m)[i]? = some b ∧ ((i = j ∧ a = x ∧ b = y) ∨ (i ≠ j ∧ P a b))
  | 0, l, m, _, hl, k, 0, a, e => by simp [ins] at e; exact ⟨y, rfl, .inl ⟨rfl, e.symm, rfl⟩⟩
  | 0, l, m, _, hl, k, i + 1, a, e => by
    simp [ins] at e
    obtain ⟨b, h1, h2⟩ := k i a e
    exact ⟨b, by simpa [ins] using h1, .inr ⟨by omega, h2⟩⟩
  | j + 1, [], _, h, _, _, _, _, _ => by simp at h
  | j + 1, _ :: _, [], _, hl, _, _, _, _ => by cases hl
  | j + 1, z :: l, w :: m, hj, hl, k, 0, a, e => by
    obtain ⟨b, h1, h2⟩ := k 0 a (by simpa [ins] using e)
    exact ⟨b, by simpa [ins] using h1, .inr ⟨by omega, h2⟩⟩
  | j + 1, z :: l, w :: m, hj, hl, k, i + 1, a, e => by
    obtain ⟨b, h1, h2⟩ := ins_rel j (l := l) (m := m) (by simpa using hj) (by simpa using hl) (fun i a e => by simpa using k (i + 1) a (by simpa using e)) i a (by simpa [ins] using e)
    refine ⟨b, by simpa [ins] using h1, ?_⟩
    rcases h2 with ⟨h2, h3⟩ | ⟨h2, h3⟩
    · exact .inl ⟨by rw [h2], h3⟩
    · exact .inr ⟨by omega, h3⟩
def outer (H : Hp) (fp : List Addr) : Hp := fun p => if p ∈ fp then none else H p
theorem argsI_rep {K : PySem.W.Frag} {mg : Str → Option Value} {G H : Hp} {ds : List D} {ws : List V} {t : OT} {vj : V} {fp : List Addr} {N : List Str} {j : Nat} (gh : Same G H) (rs : Rs K mg G ds ws) (hj : j ≤ ds.length) (ro : RO K mg G H t vj fp) (nd : fp.Nodup) (fr : ∀ p ∈ fp, G p = none) (hN : ds.length + 1 ≤ N.length) :
    Rep K mg ⟨outer H fp, G, [(j, vj)]⟩ G H (L2.start N (ins j vj ws)) (argsI N.length j t ds) := by
  have hl := rs.len
  have hO : ∀ p o, outer H fp p = some o → H p = some o ∧ p ∉ fp := fun p o h => by
    unfold outer at h
    split at h
    · cases h
    · rename_i n; exact ⟨h, n⟩
  have lw : (ins j vj ws).length = ds.length + 1 := by rw [ins_len, hl]
  refine ⟨⟨gh, fun p o h => (hO p o h).1, Same.refl _, fun _ _ => rfl, fun q hq => ?_⟩, ?_, fun i => if i = j then fp else [], fun i u e => ?_, fun i => ?_, fun i p hp => ?_, fun i k p ne hp hk => ?_⟩
  · cases hq with
    | head =>
      unfold L2.start
      rw [List.getElem?_append_left (by rw [List.length_map, lw]; omega), List.getElem?_map, ins_at vj j ws (by omega)]
      rfl
    | tail _ h => cases h
  · unfold L2.start argsI
    rw [List.length_append, List.length_append, List.length_map, ins_len, ins_len, List.length_map, List.length_replicate, List.length_replicate, hl]
  · unfold argsI at e
    have la : (ins j (some t) (ds.map fun d => some (OT.d d))).length = ds.length + 1 := by rw [ins_len, List.length_map]
    by_cases hi : i < ds.length + 1
    · rw [List.getElem?_append_left (by rw [la]; exact hi)] at e
      obtain ⟨b, h1, h2⟩ := ins_rel (x := some t) (y := some vj) (P := fun (a : Option OT) (b : Option V) => ∃ d v, a = some (.d d) ∧ b = some v ∧ R K mg G d v) j (l := ds.map fun d => some (OT.d d)) (m := ws.map some) (by simpa using hj) (by rw [List.length_map, List.length_map, hl]) (fun i a ea => by
        rw [List.getElem?_map] at ea
        obtain ⟨d, hd, rfl⟩ := Option.map_eq_some_iff.mp ea
        obtain ⟨v, x1, x2⟩ := rs.get hd
        exact ⟨some v, by rw [List.getElem?_map, x1]; rfl, d, v, rfl, rfl, x2⟩) i (some u) e
      have hs : (L2.start N (ins j vj ws))[i]? = some b := by
        unfold L2.start
        rw [List.getElem?_append_left (by rw [List.length_map, lw]; exact hi), ins_map]
        exact h1
      rcases h2 with ⟨rfl, h3, rfl⟩ | ⟨ne, d, v, h3, rfl, h4⟩
      · cases h3
        exact ⟨vj, hs, by rw [if_pos rfl]; exact ro⟩
      · cases h3
        exact ⟨v, hs, by rw [if_neg ne]; exact RO.dd h4⟩
    · rw [List.getElem?_append_right (by rw [la]; omega), List.getElem?_replicate] at e
      split at e <;> cases e
  · (try dsimp only); split
    · exact nd
    · exact List.nodup_nil
  · (try dsimp only at hp); split at hp
    · exact ⟨ro.live p hp, fr p hp, by show (if p ∈ fp then none else H p) = none; rw [if_pos hp]⟩
    · exact absurd hp (by simp)
  · (try dsimp only at hp hk)
    split at hp
    · split at hk
      · rename_i a b; exact ne (a.trans b.symm)
      · exact absurd hk (by simp)
    · exact absurd hp (by simp)
theorem spI_len {K : PySem.W.Frag} {mg : Str → Option Value} {on : Prop} {a n j : Nat} {F : En → Flw} {vs : List V} {H : Hp} {Q : VK} {E : XK} (h : spI K mg on j (runI a n j F) vs H Q E) : vs.length = a := by
  obtain ⟨G, t, ds, vj, ws, fp, _, rs, ev, _, _, _, h⟩ := h
  rw [ev, ins_len, rs.len]
  unfold runI at h
  by_cases e : ds.length + 1 = a ∧ j < a
  · exact e.1
  · rw [if_neg e] at h; exact h.elim
theorem out_runI {X : Cx} {W : WW} {on : Prop} {a n j : Nat} {F : En → Flw} {t : OT} {ds : List D} {G H : Hp} {vj : V} {fp : List Addr} {Q : VK} {E : XK} (hW : on → W.on) (hE : ∀ cls d σ H', E cls d H' → W.w cls d σ H')
    (h : match runI a n j F t ds with
      | .ok r t' => ∀ v G' H' fr ft, Same (outer H fp) H' → Same G G' → Same G' H' → (∀ p, H p ≠ none → p ∉ fp → G' p = G p) → RO X.K X.mg G' H' r v fr → RO X.K X.mg G' H' t' vj ft → (fr ++ ft).Nodup → (∀ p ∈ fr ++ ft, G' p = none ∧ (H p = none ∨ p ∈ fp)) → Q v H'
      | .ex c t' => on ∧ ∀ G' H' ft cls dd, Same (outer H fp) H' → Same G G' → Same G' H' → (∀ p, H p ≠ none → p ∉ fp → G' p = G p) → RO X.K X.mg G' H' t' vj ft → ft.Nodup → (∀ p ∈ ft, G' p = none ∧ (H p = none ∨ p ∈ fp)) → RX X.K X.mg G' H' c cls dd → E cls dd H'
      | .bad => False) : Out X W ⟨outer H fp, G, [(j, vj)]⟩ { nx := fun _ H' => Q .non H', rt := Q } (F (argsI n j t ds)) := by
  have og : ∀ {G' : Hp}, (∀ p, outer H fp p ≠ none → G' p = G p) → ∀ p, H p ≠ none → p ∉ fp → G' p = G p := fun h p h1 h2 => h p (by unfold outer; rw [if_neg h2]; exact h1)
  have on' : ∀ {p : Addr}, outer H fp p = none → H p = none ∨ p ∈ fp := fun {p} h => by
    unfold outer at h
    split at h
    · rename_i x; exact .inr x
    · exact .inl h
  unfold runI at h
  by_cases hc : ds.length + 1 = a ∧ j < a
  · rw [if_pos hc] at h
    have slot : ∀ {ρ : En} {σ : L2.St} {G' H' : Hp} {t' : OT} {FF : Nat → List Addr}, Gr ⟨outer H fp, G, [(j, vj)]⟩ G' H' σ → Slots X.K X.mg ⟨outer H fp, G, [(j, vj)]⟩ G' H' σ ρ FF → ρ[j]? = some (some t') → RO X.K X.mg G' H' t' vj (FF j) := fun {ρ σ G' H' t' FF} g f e => by
      obtain ⟨v, h1, h2⟩ := f.rep j t' e
      have h3 := g.io (j, vj) List.mem_cons_self
      rw [h1] at h3
      cases h3
      exact h2
    cases e : F (argsI n j t ds) with
    | nx ρ =>
      rw [e, finI] at h
      intro σ G' H' r
      obtain ⟨FF, f⟩ := r.sl
      rcases e2 : ρ[j]? with _ | _ | t2
      · rw [slotI, e2] at h; exact h.elim
      · rw [slotI, e2] at h; exact h.elim
      · rw [slotI, e2] at h
        exact h .non G' H' [] (FF j) r.g.oh r.g.g0 r.g.gh (og r.g.og) (RO.dd rfl) (slot r.g f e2) (by simpa using f.nd j) fun p hp => by
          have hp : p ∈ FF j := by simpa using hp
          exact ⟨(f.at_ j p hp).2.1, on' (f.at_ j p hp).2.2⟩
    | rt r0 ρ =>
      rw [e, finI] at h
      intro v σ G' H' r
      obtain ⟨FF, fv, f, a1, a2, a3, a4⟩ := r.sl
      rcases e2 : ρ[j]? with _ | _ | t2
      · rw [slotI, e2] at h; exact h.elim
      · rw [slotI, e2] at h; exact h.elim
      · rw [slotI, e2] at h
        refine h v G' H' fv (FF j) r.g.oh r.g.g0 r.g.gh (og r.g.og) a1 (slot r.g f e2) ?_ fun p hp => ?_
        · rw [List.nodup_append]
          exact ⟨a2, f.nd j, fun p hp q hq z => a4 j p hp (z ▸ hq)⟩
        · rcases List.mem_append.mp hp with hp | hp
          · exact ⟨(a3 p hp).2.1, on' (a3 p hp).2.2⟩
          · exact ⟨(f.at_ j p hp).2.1, on' (f.at_ j p hp).2.2⟩
    | ex c ρ =>
      rw [e, finI] at h
      rcases e2 : ρ[j]? with _ | _ | t2
      · rw [slotI, e2] at h; exact h.elim
      · rw [slotI, e2] at h; exact h.elim
      · rw [slotI, e2] at h
        refine ⟨hW h.1, fun σ G' H' cls dd r q => ?_⟩
        obtain ⟨FF, f⟩ := r.sl
        exact hE _ _ _ _ (h.2 G' H' (FF j) cls dd r.g.oh r.g.g0 r.g.gh (og r.g.og) (slot r.g f e2) (f.nd j) (fun p hp => ⟨(f.at_ j p hp).2.1, on' (f.at_ j p hp).2.2⟩) q)
    | bk ρ => rw [e] at h; exact h.elim
    | ct ρ => rw [e] at h; exact h.elim
    | bad => rw [e] at h; exact h.elim
  · rw [if_neg hc] at h; exact h.elim
section
variable {P : Program} {w : World} {K : PySem.W.Frag} {mg : Str → Option Value} {base : Heap}
theorem fnI0 {x qual : Str} {st : Stmt} {f : Addr} {fd : FuncData} {N ps : List Str} {k : Nat} {F : En → Flw} (j : Nat) (Fn : Fun K x qual st f fd) (S : FnScope N ps (defScope st)) (hps : ps.length ≤ N.length)
    (hb : ∀ (cdv : Value) (A : Around) (outer : List Env) (s : Shared) (H : Hp) (E : XK), Room k (A.deeper (envOfC qual (defScope st) s.heap.objs.size f cdv)) → SS (cxOf CX0 P w K mg base N qual (defScope st) f cdv A outer s H E).nox W0 [j] (defBody st) F) :
    FnOk P w K mg base CX0 (k + 1) f fd ps (spI K mg False j (runI ps.length N.length j F)) := by
  refine Fn.ok S (fun vs H Q E h => spI_len h) (fun cdv A out s H vs Q E hr hsp => ?_)
  have hl := spI_len hsp
  obtain ⟨G, t, ds, vj, ws, fp, gh, rs, ev, ro, nd, fr, h⟩ := hsp
  have hlen : ds.length + 1 = ps.length := by rw [← hl, ev, ins_len, rs.len]
  have hj : j ≤ ds.length := by
    unfold runI at h
    by_cases e : ds.length + 1 = ps.length ∧ j < ps.length
    · omega
    · rw [if_neg e] at h; exact h.elim
  subst ev
  refine ⟨_, (hb cdv A out s H E hr).run ⟨outer H fp, G, [(j, vj)]⟩ rfl, G, argsI N.length j t ds, argsI_rep gh rs hj ro nd fr (by omega), ?_⟩
  refine out_runI (X := (cxOf CX0 P w K mg base N qual (defScope st) f cdv A out s H E).nox) (W := W0) (on := False) (a := ps.length) (E := fun _ _ _ => False) (fun z => z) (fun _ _ _ _ z => z) ?_
  cases e : runI ps.length N.length j F t ds with
  | ok r t' => rw [e] at h; exact h
  | ex c t' => rw [e] at h; exact h.1.elim
  | bad => rw [e] at h; exact h
theorem fnIX {x qual : Str} {st : Stmt} {f : Addr} {fd : FuncData} {N ps : List Str} {k : Nat} {F : En → Flw} (j : Nat) (Fn : Fun K x qual st f fd) (S : FnScope N ps (defScope st)) (hps : ps.length ≤ N.length)
    (hb : ∀ (cdv : Value) (A : Around) (outer : List Env) (s : Shared) (H : Hp) (E : XK), Room k (A.deeper (envOfC qual (defScope st) s.heap.objs.size f cdv)) → SS (cxOf (L2N.CX P w) P w K mg base N qual (defScope st) f cdv A outer s H E) ⟨True, fun cls d _ H' => E cls d H'⟩ [j] (defBody st) F) :
    FnOk P w K mg base (L2N.CX P w) (k + 1) f fd ps (spI K mg True j (runI ps.length N.length j F)) := by
  refine okN Fn S (fun vs H Q E h => spI_len h) (fun cdv A out s H vs Q E hr hsp => ?_)
  have hl := spI_len hsp
  obtain ⟨G, t, ds, vj, ws, fp, gh, rs, ev, ro, nd, fr, h⟩ := hsp
  have hlen : ds.length + 1 = ps.length := by rw [← hl, ev, ins_len, rs.len]
  have hj : j ≤ ds.length := by
    unfold runI at h
    by_cases e : ds.length + 1 = ps.length ∧ j < ps.length
    · omega
    · rw [if_neg e] at h; exact h.elim
  subst ev
  exact ⟨_, (hb cdv A out s H E hr).run ⟨outer H fp, G, [(j, vj)]⟩ rfl, G, argsI N.length j t ds, argsI_rep gh rs hj ro nd fr (by omega), out_runI (X := cxOf (L2N.CX P w) P w K mg base N qual (defScope st) f cdv A out s H E) (W := ⟨True, fun cls d _ H' => E cls d H'⟩) (on := True) (a := ps.length) (E := E) (fun z => z) (fun _ _ _ _ z => z) h⟩
end
structure CalI (P : Program) (w : World) (K : PySem.W.Frag) (mg : Str → Option Value) (base : Heap) (CX : CXT) (on : Prop) (x : Str) (k j : Nat) (F : OT → List D → ResI) : Prop where
  ex : ∃ f fd ps, FnOk P w K mg base CX k f fd ps (spI K mg on j F) ∧ mg x = some (.ref f) ∧ PySem.W.keepIn K (.ref f) = true ∧ Binds K fd ps []
/-- an argument list whose j-th is the owned thing in slot i -/
structure EAI (X : Cx) (W : WW) (i j : Nat) (es : List Expr) (f : En → Res (List D)) : Prop where
  run : ∀ B, PA X es fun σ H Q => ∃ vj, σ[i]? = some (some vj) ∧ lift X W (relL X.K X.mg) B f σ H fun ws H' => Q (ins j vj ws) H'
section
variable {X : Cx} {W : WW} {e : Expr} {es : List Expr} {f : En → Res D} {fs : En → Res (List D)} {x : Str} {k j : Nat} {p pos : Pos} {CX : CXT} {on : Prop} {F : OT → List D → ResI}
theorem EAI.here (i : Nat) (h : EA X W es fs) (hN : X.N[i]? = some x := by rfl) (hv : Vis X.env.scope x := by first | exact Or.inl rfl | exact Or.inr (Or.inl rfl) | exact Or.inr (Or.inr rfl)) (hd : (x == ("__debug__" : Str)) = false := by decide) (hcd : (x == ("__classdict__" : Str)) = false := by decide)
    (hs : starEach (.Name x pos :: es) X.env = (false, eval (.Name x pos) X.env) :: starEach es X.env := by rfl) : EAI X W i 0 (.Name x pos :: es) fs := ⟨fun B => PA.mono (pa_cons (pe_var (i := i) hN hv hd hcd) (h.run B) hs) fun σ H Q ⟨vj, hv, q⟩ => ⟨vj, hv, q⟩⟩
theorem EAI.there {i : Nat} (h : EF X W e f) (h2 : EAI X W i j es fs) (hs : starEach (e :: es) X.env = (false, eval e X.env) :: starEach es X.env := by rfl) : EAI X W i (j + 1) (e :: es) (consA f fs) := ⟨fun B => PA.mono (pa_cons (h.run B) (h2.run B) hs) fun σ H Q ⟨vj, hv, G, ρ, r, q⟩ =>
  lift.next (rel := relD X.K X.mg) (g := fun d ρ => (fs ρ).bind fun ds => .ok (d :: ds)) later_L r q fun a b G1 H1 r1 s q1 w =>
    ⟨vj, hv, lift.next (rel := relL X.K X.mg) (g := fun ds _ => .ok (a :: ds)) later_L r1 w fun as bs G2 H2 r2 s2 q2 w2 => Wr.ok (rel := relL X.K X.mg) (k := fun _ ws _ H' => Q (ins (j + 1) vj ws) H') w2 (Stp.refl r2.gh) ⟨b, bs, rfl, R.mono s2.gg q1, q2⟩⟩⟩
def callI (F : OT → List D → ResI) (i : Nat) (fs : En → Res (List D)) (ρ : En) : ResX := match ρ[i]? with
  | some (some t) => match fs ρ with
    | .ok ds => match F t ds with
      | .ok r t' => .ok r (ρ.set i (some t'))
      | .ex c t' => .ex c (ρ.set i (some t'))
      | .bad => .bad
    | .ex c => .ex c ρ
    | .bad => .bad
  | _ => .bad
/-- behind a call that changed what slot i owns -/
theorem callI_back {B : Bs} {K : PySem.W.Frag} {mg : Str → Option Value} {G H G' H' : Hp} {σ : L2.St} {ρ : En} {i : Nat} {t t' : OT} {vj : V} {FF : Nat → List Addr} (g : Gr B G H σ) (hlen : ρ.length = σ.length) (f : Slots K mg B G H σ ρ FF) (e : ρ[i]? = some (some t)) (hv : σ[i]? = some (some vj))
    (o1 : Same (fun p => if p ∈ FF i then none else H p) H') (o2 : Same G G') (o3 : Same G' H') (o4 : ∀ p, H p ≠ none → p ∉ FF i → G' p = G p) {ft : List Addr} (rt : RO K mg G' H' t' vj ft) (nd : ft.Nodup) (at_ : ∀ p ∈ ft, G' p = none ∧ (H p = none ∨ p ∈ FF i)) :
    Gr B G' H' σ ∧ Slots K mg B G' H' σ (ρ.set i (some t')) (fun k => if k = i then ft else FF k) ∧ ∀ p, G' p = none → (H p = none ∨ p ∈ FF i) → B.O p = none ∧ ∀ k, k ≠ i → p ∉ FF k := by
  have keep : ∀ p, H p ≠ none → p ∉ FF i → H' p = H p := fun p h1 h2 => by
    cases q : H p with
    | none => exact absurd q h1
    | some o => exact o1 p o (by (try dsimp only); rw [if_neg h2]; exact q)
  have nO : ∀ p, B.O p ≠ none → H p ≠ none ∧ p ∉ FF i := fun p h => ⟨live_of g.oh h, fun z => h (f.at_ i p z).2.2⟩
  have far : ∀ p, (H p = none ∨ p ∈ FF i) → B.O p = none ∧ ∀ k, k ≠ i → p ∉ FF k := fun p h => by
    refine ⟨?_, fun k ne hk => ?_⟩
    · cases q : B.O p with
      | none => rfl
      | some o =>
        have z := nO p (by rw [q]; exact fun z => nomatch z)
        rcases h with h | h
        · exact absurd h z.1
        · exact absurd h z.2
    · rcases h with h | h
      · exact (f.at_ k p hk).1 h
      · exact f.dj k i p ne hk h
  refine ⟨⟨o3, fun p o h => ?_, g.g0.trans o2, fun p h => ?_, g.io⟩, ⟨fun k u q => ?_, fun k => ?_, fun k p hp => ?_, fun k l p ne hp hk => ?_⟩, fun p _ h => far p h⟩
  · have z := nO p (by rw [h]; exact fun z => nomatch z)
    rw [keep p z.1 z.2]; exact g.oh p o h
  · have z := nO p h
    rw [o4 p z.1 z.2]; exact g.og p h
  · rcases get_set q with ⟨e1, hl, e2⟩ | ⟨ne, q⟩
    · subst e1; cases e2
      exact ⟨vj, hv, by rw [if_pos rfl]; exact rt⟩
    · obtain ⟨w, a, b⟩ := f.rep k u q
      refine ⟨w, a, ?_⟩
      rw [if_neg (fun z => ne z.symm)]
      exact b.frame o2 fun p hp => keep p (f.at_ k p hp).1 (f.dj k i p (fun z => ne z.symm) hp)
  · (try dsimp only); split
    · exact nd
    · exact f.nd k
  · (try dsimp only at hp); split at hp
    · exact ⟨rt.live p hp, (at_ p hp).1, (far p (at_ p hp).2).1⟩
    · rename_i ne
      have n := f.dj k i p ne hp
      exact ⟨by rw [keep p (f.at_ k p hp).1 n]; exact (f.at_ k p hp).1, by rw [o4 p (f.at_ k p hp).1 n]; exact (f.at_ k p hp).2.1, (f.at_ k p hp).2.2⟩
  · (try dsimp only at hp hk)
    by_cases h1 : k = i
    · by_cases h2 : l = i
      · exact ne (h1.trans h2.symm)
      · rw [if_pos h1] at hp; rw [if_neg h2] at hk
        exact (far p (at_ p hp).2).2 l h2 hk
    · rw [if_neg h1] at hp
      by_cases h2 : l = i
      · rw [if_pos h2] at hk
        exact (far p (at_ p hk).2).2 k h1 hp
      · rw [if_neg h2] at hk
        exact f.dj k l p ne hp hk
theorem EX.call {i : Nat} (c : CalI X.prog X.w X.K X.mg X.base CX on x k j F) (hr : Room k X.A) (hx : ∀ σ, PassesAt CX X σ (WE W.w σ)) (hon : W.on → on) (ha : EAI X W i j (e :: es) fs) (hg : Gl X x := by rfl) (hdb : (x == ("__debug__" : Str)) = false := by decide)
    (he : starEach (e :: es) X.env = (false, eval e X.env) :: starEach es X.env := by rfl) (hpl : (backTo pos (starEach es X.env)).any (·.1) = false := by rfl) : EX X W (.Call (.Name x p) (e :: es) [] pos) (callI F i fs) := ⟨fun B => by
  obtain ⟨f, fd, ps, hf, hm, hk, hb⟩ := c.ex
  refine PE.mono (pe_callS (E := WE W.w) hf hr hg hm hk hb hx (ha.run B) hdb he hpl) fun σ H Q ⟨G, ρ, r, h⟩ => ?_
  unfold callI at h
  split at h
  · rename_i t et
    obtain ⟨vj, _, hv, _⟩ := r.slot et
    refine ⟨vj, hv, ⟨G, ρ, r, ?_⟩⟩
    cases ef : fs ρ with
    | bad => rw [ef] at h; exact h
    | ex c => rw [ef] at h; exact ⟨h.1, fun G' H' cls dd s q => h.2 G' H' cls dd (r.step s) q⟩
    | ok ds =>
      rw [ef] at h
      intro ws G1 H1 s1 q1
      have r1 := r.step s1
      obtain ⟨FF, f1⟩ := r1.sl
      obtain ⟨vj', hv', ro⟩ := f1.rep i t et
      rw [hv] at hv'
      cases hv'
      refine ⟨G1, t, ds, vj, ws, FF i, r1.gh, q1, rfl, ro, f1.nd i, fun p hp => (f1.at_ i p hp).2.1, ?_⟩
      dsimp only at h
      cases eF : F t ds with
      | bad => rw [eF] at h; exact h
      | ok r0 t' =>
        rw [eF] at h
        intro v G' H' fr ft o1 o2 o3 o4 rv rt nd at_
        rw [List.nodup_append] at nd
        obtain ⟨g2, f2, far⟩ := callI_back r1.g r1.len f1 et hv o1 o2 o3 o4 rt nd.2.1 fun p hp => at_ p (List.mem_append_right _ hp)
        refine h v G' H' ⟨g2, by rw [List.length_set]; exact r1.len, _, fr, f2, rv, nd.1, fun p hp => ⟨rv.live p hp, (at_ p (List.mem_append_left _ hp)).1, (far p (at_ p (List.mem_append_left _ hp)).1 (at_ p (List.mem_append_left _ hp)).2).1⟩, fun l p hp hl => ?_⟩
        by_cases z : l = i
        · rw [if_pos z] at hl; exact nd.2.2 p hp p hl rfl
        · rw [if_neg z] at hl; exact (far p (at_ p (List.mem_append_left _ hp)).1 (at_ p (List.mem_append_left _ hp)).2).2 l z hl
      | ex c t' =>
        rw [eF] at h
        refine ⟨hon h.1, fun G' H' ft cls dd o1 o2 o3 o4 rt nd at_ q => ?_⟩
        obtain ⟨g2, f2, far⟩ := callI_back r1.g r1.len f1 et hv o1 o2 o3 o4 rt nd at_
        exact h.2 G' H' cls dd ⟨g2, by rw [List.length_set]; exact r1.len, _, f2⟩ q
  · exact h.elim⟩
end
end FL
/-! The functional layer, part L: built-ins, named combinators, reading owned things. -/
namespace FL
open PySem PySem.Spec PyProof.Rows L2
/-! named combinators -/
def fzE (f : En → Res OT) (ρ : En) : Res D := (f ρ).map fz
def ofE (f : En → Res D) (ρ : En) : Res OT := (f ρ).map .d
def tst (f : En → Res D) (ρ : En) : Res Bool := (f ρ).bind asB
def borT (f : En → Res Bool) (ρ : En) : Res Bool := match f (frz ρ) with
  | .ok b => .ok b
  | .ex x => match x.p with
    | none => .ex x
    | some _ => .bad
  | .bad => .bad
section
variable {X : Cx} {W : WW} {a b e : Expr} {es : List Expr} {f fi fa fb fc : En → Res D} {fo : En → Res OT} {t : En → Res Bool} {fs : En → Res (List D)} {pos ppos apos cpos : Pos} {x : Str}
theorem EF.ofO (h : EO X W e fo) : EF X W e (fzE fo) := EF.of_EO h
theorem EO.ofF (h : EF X W e f) : EO X W e (ofE f) := EO.of_EF h
theorem ET.v (h : EF X W e f) (he : ∀ whole, isTrue e X.env whole = (do let v ← whole; standAt e.pos; holding [v] (truthy v)) := by intro _; rfl) : ET X W e (tst f) := ET.val h he
theorem ET.c {op : CmpOp} (h : EC X W op a b f) (h1 : behindInMarks op b = false := by first | exact nobehind _ (by decide) (by decide) | rfl) : ET X W (.Compare a [op] [b] pos) (tst f) := ET.cmp h h1
theorem ET.c2 {o1 o2 : CmpOp} {g g' : D → D → Option D} {c : Expr} (h1 : OpD X (compareOp o1) g) (h2 : OpD X (compareOp o2) g') (ha : EF X W a fa) (hb : EF X W b fb) (hc : EF X W c fc) (hm : lastMarks [o1, o2] [b, c] = false := by with_unfolding_all rfl) :
    ET X W (.Compare a [o1, o2] [b, c] pos) (tst (chD g g' fa fb fc)) := ET.ch h1 h2 ha hb hc hm
theorem ET.bor (h : ET X W e t) : ET X W e (borT t) := ⟨fun B => PT.mono (h.run B) fun σ H Q ⟨G, ρ, r, h⟩ => by
  obtain ⟨G1, g1, n1, r1⟩ := r.fzAll
  refine ⟨G1, frz ρ, r1, ?_⟩
  unfold borT at h
  cases e1 : t (frz ρ) with
  | ok d =>
    rw [e1] at h
    exact fun v G' H' s q => h v _ H' (bor_stp r.gh g1 s) q
  | ex c =>
    rw [e1] at h
    dsimp only at h
    split at h
    · rename_i ep
      refine ⟨h.1, fun G' H' cls dd s q => h.2 _ H' cls dd (bor_stp r.gh g1 s) ⟨q.1, ?_⟩⟩
      have q2 := q.2
      rw [ep] at q2 ⊢
      exact q2
    · exact h.elim
  | bad => rw [e1] at h; exact h⟩
/-- x[i], x an owned list with frozen items -/
def oix (s : Nat) (fi : En → Res D) (ρ : En) : Res D := match ρ[s]? with
  | some (some (.lst ts)) => (fi ρ).bind fun k => match k with
    | .int k => match L2.atI ts k with
      | some (.d x) => .ok x
      | _ => .bad
    | _ => .bad
  | _ => .bad
theorem EF.oix (s : Nat) (hi : EF X W b fi) (hN : X.N[s]? = some x := by rfl) (hv : Vis X.env.scope x := by first | exact Or.inl rfl | exact Or.inr (Or.inl rfl) | exact Or.inr (Or.inr rfl)) (hd : (x == ("__debug__" : Str)) = false := by decide) (hcd : (x == ("__classdict__" : Str)) = false := by decide)
    (hs : PlainIx b := by intro _ _; rfl) : EF X W (.Subscript (.Name x ppos) b pos) (oix s fi) := ⟨fun B => PE.mono (pe_ix ix_list (pe_var (i := s) hN hv hd hcd) (hi.run B) hs) fun σ H Q ⟨G, ρ, r, h⟩ => by
  unfold FL.oix at h
  split at h
  · rename_i ts es
    obtain ⟨a, vs, fs, hv, l, ha, ro, nd, _⟩ := r.lst es
    refine ⟨.ref a, hv, lift.next (rel := relD X.K X.mg) (g := fun k _ => match k with
      | .int k => match L2.atI ts k with
        | some (.d x) => .ok x
        | _ => .bad
      | _ => .bad) later_D r h fun d y G1 H1 r1 s1 q1 w1 => ?_⟩
    (try dsimp only at w1)
    cases d <;> first | exact w1.elim | skip
    rename_i k
    (try dsimp only at w1)
    cases ek : L2.atI ts k with
    | none => rw [ek] at w1; exact w1.elim
    | some u =>
      rw [ek] at w1
      cases u <;> first | exact w1.elim | skip
      rename_i z
      cases q1
      unfold L2.atI at ek
      cases ej : ixN ts.length k with
      | none => rw [ej] at ek; cases ek
      | some j =>
        rw [ej] at ek
        obtain ⟨v, f1, fj, f2, ev, _, rj, _⟩ := ro.at (by simpa using ek)
        unfold RO at rj
        refine ⟨a, vs, k, v, rfl, rfl, SqL.of (s1.hh _ _ ha), ?_, Wr.ok (rel := relD X.K X.mg) (k := fun _ v _ H' => Q v H') w1 (Stp.refl r1.gh) (R.mono s1.gg rj.2)⟩
        unfold L2.atI
        rw [ro.len, ej]
        exact ev
  · exact h.elim⟩
/-! is True, is False -/
def isB : D → D → Option D
  | .bl a, .bl b => some (.bl (decide (a = b)))
  | _, _ => none
def isnB : D → D → Option D
  | .bl a, .bl b => some (.bl (!decide (a = b)))
  | _, _ => none
/-! built-ins -/
def bls : List D → Option (List Bool)
  | [] => some []
  | .bl b :: ds => (bls ds).map (b :: ·)
  | _ :: _ => none
def intsOf : List D → Option (List Int)
  | [] => some []
  | .int i :: ds => (intsOf ds).map (i :: ·)
  | _ :: _ => none
theorem bls_ok {K : PySem.W.Frag} {mg : Str → Option Value} {G : Hp} : ∀ {ds : List D} {vs : List V} {bs : List Bool}, Rs K mg G ds vs → bls ds = some bs → vs = bs.map V.bl
  | [], _, _, h, e => by cases e; exact h
  | d :: ds, _, bs, ⟨v, r, e, h, t⟩, q => by
    cases d <;> first | cases q | skip
    unfold bls at q
    obtain ⟨cs, hc, rfl⟩ := Option.map_eq_some_iff.mp q
    rw [e, show v = .bl _ from h, bls_ok t hc]; rfl
theorem ints_ok {K : PySem.W.Frag} {mg : Str → Option Value} {G : Hp} : ∀ {ds : List D} {vs : List V} {bs : List Int}, Rs K mg G ds vs → intsOf ds = some bs → vs = bs.map V.int
  | [], _, _, h, e => by cases e; exact h
  | d :: ds, _, bs, ⟨v, r, e, h, t⟩, q => by
    cases d <;> first | cases q | skip
    unfold intsOf at q
    obtain ⟨cs, hc, rfl⟩ := Option.map_eq_some_iff.mp q
    rw [e, show v = .int _ from h, ints_ok t hc]; rfl
def allD : List D → Option D
  | [.lst ds] => (bls ds).map fun bs => .bl (bs.all id)
  | _ => none
def anyD : List D → Option D
  | [.lst ds] => (bls ds).map fun bs => .bl (bs.any id)
  | _ => none
def sumD : List D → Option D
  | [.lst ds] => (intsOf ds).map fun ns => .int ns.sum
  | _ => none
theorem all_ok (hc : X.calm = true) : CallD X (.builtin "all") allD := by
  rintro pins s σ H xs us Q I r ⟨G, ds, c, gh, q, hg, k⟩
  unfold allD at hg
  split at hg
  · obtain ⟨v, rfl, q0⟩ := q.one
    obtain ⟨p, vs, rfl, _, e1, q1⟩ := R.lst q0
    obtain ⟨bs, hb, rfl⟩ := Option.map_eq_some_iff.mp hg
    exact cr_all hc pins s σ H _ us Q I r ⟨p, bs, rfl, by rw [← bls_ok q1 hb]; exact SqL.of (gh _ _ e1), k _ _ _ (Stp.refl gh) rfl⟩
  · cases hg
theorem any_ok (hc : X.calm = true) : CallD X (.builtin "any") anyD := by
  rintro pins s σ H xs us Q I r ⟨G, ds, c, gh, q, hg, k⟩
  unfold anyD at hg
  split at hg
  · obtain ⟨v, rfl, q0⟩ := q.one
    obtain ⟨p, vs, rfl, _, e1, q1⟩ := R.lst q0
    obtain ⟨bs, hb, rfl⟩ := Option.map_eq_some_iff.mp hg
    exact cr_any hc pins s σ H _ us Q I r ⟨p, bs, rfl, by rw [← bls_ok q1 hb]; exact SqL.of (gh _ _ e1), k _ _ _ (Stp.refl gh) rfl⟩
  · cases hg
theorem sum_ok (hc : X.calm = true) : CallD X (.builtin "sum") sumD := by
  rintro pins s σ H xs us Q I r ⟨G, ds, c, gh, q, hg, k⟩
  unfold sumD at hg
  split at hg
  · obtain ⟨v, rfl, q0⟩ := q.one
    obtain ⟨p, vs, rfl, _, e1, q1⟩ := R.lst q0
    obtain ⟨bs, hb, rfl⟩ := Option.map_eq_some_iff.mp hg
    exact cr_sum hc pins s σ H _ us Q I r ⟨p, bs, rfl, by rw [← ints_ok q1 hb]; exact SqL.of (gh _ _ e1), k _ _ _ (Stp.refl gh) rfl⟩
  · cases hg
def max2 : List D → Option D
  | [.int i, .int j] => some (.int (if j > i then j else i))
  | _ => none
def min2 : List D → Option D
  | [.int i, .int j] => some (.int (if j < i then j else i))
  | _ => none
theorem max2_ok (hc : X.calm = true) : CallD X (.builtin "max") max2 := by
  rintro pins s σ H xs us Q I r ⟨G, ds, c, gh, q, hg, k⟩
  unfold max2 at hg
  split at hg
  · cases hg
    obtain ⟨v, w, rfl, q, q2⟩ := q.two
    cases q; cases q2
    exact call_max2 hc pins s σ H _ us Q I r ⟨_, _, rfl, k _ _ _ (Stp.refl gh) rfl⟩
  · cases hg
theorem min2_ok (hc : X.calm = true) : CallD X (.builtin "min") min2 := by
  rintro pins s σ H xs us Q I r ⟨G, ds, c, gh, q, hg, k⟩
  unfold min2 at hg
  split at hg
  · cases hg
    obtain ⟨v, w, rfl, q, q2⟩ := q.two
    cases q; cases q2
    exact call_min2 hc pins s σ H _ us Q I r ⟨_, _, rfl, k _ _ _ (Stp.refl gh) rfl⟩
  · cases hg
def int1 : List D → Option D
  | [.int i] => some (.int i)
  | [.bl b] => some (.int (if b then 1 else 0))
  | _ => none
theorem int1_ok : CallD X (.type "int") int1 := by
  rintro pins s σ H xs us Q I r ⟨G, ds, c, gh, q, hg, k⟩
  unfold int1 at hg
  split at hg
  · cases hg
    obtain ⟨v, rfl, q0⟩ := q.one
    cases q0
    exact call_int1 pins s σ H _ us Q I r (.inl ⟨_, rfl, k _ _ _ (Stp.refl gh) rfl⟩)
  · cases hg
    obtain ⟨v, rfl, q0⟩ := q.one
    cases q0
    exact call_int1 pins s σ H _ us Q I r (.inr ⟨_, rfl, k _ _ _ (Stp.refl gh) rfl⟩)
  · cases hg
def listO : List D → Option OT
  | [.lst ds] => some (.lst (ds.map .d))
  | [.tup ds] => some (.lst (ds.map .d))
  | _ => none
theorem list_ok : CallO X (.type "list") listO := by
  rintro pins s σ H xs us Q I r ⟨G, ds, c, gh, q, hg, k⟩
  unfold listO at hg
  split at hg
  · cases hg
    obtain ⟨v, rfl, q0⟩ := q.one
    obtain ⟨p, vs, rfl, l, e1, q1⟩ := R.lst q0
    exact call_list_of pins s σ H _ us Q I r ⟨p, vs, rfl, .inl (SqL.of (gh _ _ e1)), fun l' hl => k _ _ _ (Stp.own gh hl) (relO.newL gh hl l q1)⟩
  · cases hg
    obtain ⟨v, rfl, q0⟩ := q.one
    obtain ⟨p, vs, rfl, l, e1, q1⟩ := R.tup q0
    exact call_list_of pins s σ H _ us Q I r ⟨p, vs, rfl, .inr (SqT.of (gh _ _ e1)), fun l' hl => k _ _ _ (Stp.own gh hl) (relO.newL gh hl l q1)⟩
  · cases hg
/-! dicts -/
def kput {κ α : Type} [DecidableEq κ] (ks : List κ) (xs : List α) (k : κ) (x : α) : List κ × List α := if k ∈ ks then (ks, List.zipWith (fun q y => if q = k then x else y) ks xs) else (ks ++ [k], xs ++ [x])
theorem kput_zip {κ : Type} [DecidableEq κ] (k : κ) (v : V) : ∀ {ks : List κ} {vs : List V}, ks.length = vs.length → putK (ks.zip vs) k v = (kput ks vs k v).1.zip (kput ks vs k v).2 := by
  intro ks vs hl
  have ha : ∀ (ks : List κ) (vs : List V), ks.length = vs.length → ((ks.zip vs).any fun kv => decide (kv.1 = k)) = decide (k ∈ ks) := by
    intro ks
    induction ks with
    | nil => intro vs _; rfl
    | cons q ks ih =>
      intro vs hl
      cases vs with
      | nil => cases hl
      | cons w vs =>
        rw [List.zip_cons_cons, List.any_cons, ih vs (by simpa using hl)]
        by_cases e : q = k
        · simp [e]
        · have e' : ¬ k = q := fun z => e z.symm
          simp [e, e']
  have hm : ∀ (ks : List κ) (vs : List V), ks.length = vs.length → (ks.zip vs).map (fun kv => if kv.1 = k then (kv.1, v) else kv) = ks.zip (List.zipWith (fun q y => if q = k then v else y) ks vs) := by
    intro ks
    induction ks with
    | nil => intro vs _; rfl
    | cons q ks ih =>
      intro vs hl
      cases vs with
      | nil => cases hl
      | cons w vs =>
        rw [List.zip_cons_cons, List.map_cons, List.zipWith_cons_cons, List.zip_cons_cons, ih vs (by simpa using hl)]
        by_cases e : q = k
        · simp [e]
        · simp [e]
  unfold putK kput
  rw [ha ks vs hl]
  by_cases e : k ∈ ks
  · rw [if_pos (decide_eq_true e), if_pos e]; exact hm ks vs hl
  · rw [if_neg (by simpa using e), if_neg e, List.zip_append hl]; rfl
theorem kput_len {κ α : Type} [DecidableEq κ] {ks : List κ} {xs : List α} {k : κ} {x : α} (h : ks.length = xs.length) : (kput ks xs k x).1.length = (kput ks xs k x).2.length := by
  unfold kput
  split
  · rw [List.length_zipWith, ← h, Nat.min_self]
  · rw [List.length_append, List.length_append, h]; rfl
theorem Rs.kput {K : PySem.W.Frag} {mg : Str → Option Value} {G : Hp} {κ : Type} [DecidableEq κ] {k : κ} {d : D} {v : V} (h : R K mg G d v) : ∀ {ks : List κ} {ds : List D} {vs : List V}, Rs K mg G ds vs → (FL.kput ks ds k d).1 = (FL.kput ks vs k v).1 ∧ Rs K mg G (FL.kput ks ds k d).2 (FL.kput ks vs k v).2 := by
  intro ks ds vs q
  unfold FL.kput
  have hz : ∀ (ks : List κ) {ds : List D} {vs : List V}, Rs K mg G ds vs → Rs K mg G (List.zipWith (fun q y => if q = k then d else y) ks ds) (List.zipWith (fun q y => if q = k then v else y) ks vs) := by
    intro ks
    induction ks with
    | nil => intro ds vs _; exact rfl
    | cons a ks ih =>
      intro ds vs q
      cases ds with
      | nil => rw [show vs = [] from q]; exact rfl
      | cons d' ds =>
        obtain ⟨w, r, e, h', t⟩ := q
        rw [e, List.zipWith_cons_cons, List.zipWith_cons_cons]
        refine ⟨_, _, rfl, ?_, ih t⟩
        split
        · exact h
        · exact h'
  split
  · exact ⟨rfl, hz ks q⟩
  · exact ⟨rfl, q.append ⟨v, [], rfl, h, rfl⟩⟩
/-- dict(a list of pairs) -/
def pairsK : List D → List Key → List D → Option (List Key × List D)
  | [], ks, xs => some (ks, xs)
  | .tup [k, x] :: r, ks, xs => (keyOf k).bind fun k => pairsK r (kput ks xs k x).1 (kput ks xs k x).2
  | _ :: _, _, _ => none
def dictO : List D → Option OT
  | [.lst ds] => (pairsK ds [] []).map fun p => .dK p.1 (p.2.map .d)
  | _ => none
theorem pairsK_ok {K : PySem.W.Frag} {mg : Str → Option Value} {G H : Hp} (gh : Same G H) : ∀ {ds : List D} {vs : List V} {ks ks' : List Key} {xs xs' : List D} {us : List V}, Rs K mg G ds vs → pairsK ds ks xs = some (ks', xs') → Rs K mg G xs us → ks.length = xs.length →
    ∃ (ps : List Addr) (kvs : List (Key × V)) (us' : List V), vs = ps.map V.ref ∧ Paired (fun p kv => SqT K H p [kV kv.1, kv.2]) ps kvs ∧ mergeK (ks.zip us) kvs = ks'.zip us' ∧ Rs K mg G xs' us' ∧ ks'.length = xs'.length
  | [], vs, ks, ks', xs, xs', us, h, e, q, hl => by
    cases e
    exact ⟨[], [], us, h, .nil, rfl, q, hl⟩
  | d :: ds, _, ks, ks', xs, xs', us, ⟨v, r, ev, h, t⟩, e, q, hl => by
    unfold pairsK at e
    split at e
    · rename_i e1; cases e1
    · rename_i e1
      cases e1
      rename_i ks0 xs0 a3 a2 a1 k x
      cases ek : keyOf k with
      | none => rw [ek] at e; cases e
      | some kk =>
        rw [ek, Option.bind_some] at e
        obtain ⟨a, ws, rfl, l, ea, qa⟩ := R.tup h
        obtain ⟨v1, v2, rfl, h1, h2⟩ := qa.two
        have hq := Rs.kput (k := kk) h2 (ks := ks0) q
        obtain ⟨ps, kvs, us', a1, a2, a3, a4, a5⟩ := pairsK_ok gh t e hq.2 (kput_len hl)
        refine ⟨a :: ps, (kk, v2) :: kvs, us', by rw [ev, a1]; rfl, .cons ?_ a2, ?_, a4, a5⟩
        · show SqT K H a [kV kk, v2]
          rw [← keyOf_ok h1 ek]
          exact SqT.of (gh _ _ ea)
        · show mergeK (putK (ks0.zip us) kk v2) kvs = _
          rw [kput_zip kk v2 (by rw [hl, q.len]), ← hq.1]
          exact a3
    · cases e
theorem dict_ok (hc : X.calm = true) : CallO X (.type "dict") dictO := by
  rintro pins s σ H xs us Q I r ⟨G, ds, c, gh, q, hg, k⟩
  unfold dictO at hg
  split at hg
  · obtain ⟨v, rfl, q0⟩ := q.one
    obtain ⟨p, vs, rfl, l, e1, q1⟩ := R.lst q0
    obtain ⟨⟨ks, ys⟩, hp, rfl⟩ := Option.map_eq_some_iff.mp hg
    obtain ⟨ps, kvs, us', a1, a2, a3, a4, a5⟩ := pairsK_ok gh q1 hp (us := []) rfl rfl
    refine call_dictP hc pins s σ H _ us Q I r ⟨p, ps, kvs, rfl, by rw [← a1]; exact SqL.of (gh _ _ e1), a2, fun b hb => ?_⟩
    rw [show mergeK [] kvs = ks.zip us' from a3]
    exact k _ _ _ (Stp.own gh hb) ⟨[b], ⟨b, us', [], rfl, rfl, by rw [List.length_map]; exact a5, upd_same, ROs.dds a4⟩, by simp, fun q hq => by rw [List.mem_singleton.mp hq]; exact ⟨hb, gh.free hb⟩⟩
  · cases hg
end
/-! what rooms give -/
theorem hu64 {k : Nat} {A : Around} (r : Room k A) : A.units + 64 < cLine := r.units
end FL
/-! The functional layer, part M: sets of ints made of a list, at the library's level. -/
namespace FL
open PySem PySem.Spec PyProof.Rows L2
/-- the empty set's object, as set(..) begins -/
def nobj (w : World) : Obj := { cls := .type "set", dict := none, data := .set #[] 0 (.fresh 0 0 (!w.params.followText "set-order")) }
def hp1 (w : World) (h : Heap) : Heap := h.push (nobj w)
section
variable {P : Program} {w : World} {A : Around} {E : Value → Shared → Prop} {s : Shared}
set_option maxHeartbeats 3200000 in
theorem setL_init {l : Addr} {its : Array Value} (ns : List Int) {R : Result → Shared → Prop} (hh : A.handled = none) (hl : s.heap.IsList l its) (hi : IntsAre its.toList ns) (hb : ns.length + 1 < scanBound)
    (hR : ∀ h' tk c, SetR w h' s.heap.objs.size (fun j => decide (j ∈ ns)) c → c ≤ ns.length → (∀ b o, s.heap.get? b = some o → h'.get? b = some o) → R (.ok (.ret .none)) { s with heap := h', toks := tk }) :
    codeAny (model P w) A (.call (.builtin "set.__init__") ⟨[.ref s.heap.objs.size, .ref l], []⟩) R { s with heap := hp1 w s.heap } := by
  have sz : its.size = ns.length := by
    have q := IntsAre.length hi
    rwa [Array.length_toList] at q
  have g0 : (hp1 w s.heap).get? s.heap.objs.size = some (nobj w) := Heap.get?_push_size _ rfl
  have ty : Shared.TypeIs { s with heap := hp1 w s.heap } (.ref s.heap.objs.size) "set" := ⟨_, g0, rfl⟩
  refine codeAny_call_builtin F.called_set.init.plain F.entry_set_init (check_set_init_1 ty ?_)
  have l1 : (hp1 w s.heap).IsList l its := hl.push _
  have ll : l < s.heap.objs.size := by
    obtain ⟨o, e, _⟩ := hl
    exact Heap.lt_size e
  obtain ⟨⟨oc, od, odt, osl⟩, e1, e2, n, e3⟩ := id l1
  dsimp only at e2 e3
  subst e2 e3
  have q1 := F.sub_list_set
  have q2 := F.sub_list_frozenset
  have q3 : (Value.type "list" == Value.type "dict") = false := by decide
  unfold Builtin.«set.__init__» noKeywords Builtin.Frozenset.updateFrom
  generalize hPI : pyIter = PI
  wp_walk
  subst hPI
  refine wpAny_pyIter_list l1 ?_
  refine wpAny_bind (wpAny_runValue ?_)
  have z1 : (hp1 w s.heap).objs.size = s.heap.objs.size + 1 := Heap.size_push ..
  have n1 : l ≠ (hp1 w s.heap).objs.size := by rw [z1]; exact Nat.ne_of_lt (Nat.lt_succ_of_lt ll)
  have n2 : s.heap.objs.size ∉ [(hp1 w s.heap).objs.size, l] := fun m => by
    rw [z1] at m
    rcases List.mem_cons.mp m with m | m
    · exact Nat.ne_of_lt (Nat.lt_succ_self _) m
    · exact Nat.ne_of_gt ll (List.mem_singleton.mp m)
  have hv : ∀ (i : Nat) (v : Value), its[i]? = some v → ∃ k t, ns[i]? = some k ∧ v = .int k t := fun i v e => by
    have hin : i < ns.length := sz ▸ (Array.getElem?_eq_some_iff.mp e).1
    obtain ⟨t, q⟩ := IntsAre.int_at hi i v (by rw [Array.getElem?_toList]; exact e)
    rw [List.getD_eq_getElem?_getD, List.getElem?_eq_getElem hin] at q
    exact ⟨ns[i], t, List.getElem?_eq_getElem hin, q⟩
  have hd3 : A.in1.in1.handled = none := by simp [hh]
  refine set_update_ints ((Walks.list hd3 _ l n1 its).toS) s.heap.objs.size n2 ns sz hb hv (its.size - 0) 0 _ (by omega) (Nat.zero_le _) ⟨⟨_, Heap.get?_push_size _ rfl, rfl, rfl⟩, l1.push _⟩ ?gStart ?gEnd
  case gStart => exact ⟨0, Nat.le_refl 0, setR_new_at (Heap.get?_push_of_some _ g0)⟩
  case gEnd =>
    rintro ⟨h', g', d', tk', os'⟩ c mv hc hS
    obtain rfl : g' = s.gens := mv.gens
    obtain rfl : d' = s.drawn := mv.drawn
    obtain rfl : os' = s.os := mv.os
    show wpAny _ _ _ _ _ _
    refine wpAny_pure ?_
    show wpAny _ _ (PySem.ret Value.none) _ _ _
    refine wpAny_pure (hR h' tk' c hS (by rw [sz] at hc; exact hc) fun b o e => ?_)
    have hlt : b < s.heap.objs.size := Heap.lt_size e
    refine mv.heap b o (fun m => ?_) (Heap.get?_push_of_some _ (Heap.get?_push_of_some _ e))
    rcases List.mem_cons.mp m with m | m
    · exact Nat.ne_of_lt hlt m
    · rw [List.mem_singleton.mp m, z1] at hlt
      exact absurd (Nat.lt_trans hlt (Nat.lt_succ_self _)) (Nat.lt_irrefl _)
set_option maxHeartbeats 3200000 in
theorem call_setL {l : Addr} {its : Array Value} (ns : List Int) {Q : Value → Shared → Prop} (hh : A.handled = none) (hl : s.heap.IsList l its) (hi : IntsAre its.toList ns) (hb : ns.length + 1 < scanBound)
    (h : ∀ h' tk c, SetR w h' s.heap.objs.size (fun j => decide (j ∈ ns)) c → c ≤ ns.length → (∀ b o, s.heap.get? b = some o → h'.get? b = some o) → Q (.ref s.heap.objs.size) { s with heap := h', toks := tk }) :
    wpAny (model P w) A (PySem.call (.type "set") [.ref l]) Q E s := by
  obtain ⟨c, tl, hmro⟩ := F.called_set.mro
  have k1 := F.called_set.made
  have k2 := F.called_set.sub
  refine wpAny_call (codeAny_of_tree ?_)
  show wpAny _ _ (callAny (.type "set") _) _ _ _
  refine wpAny_pure ⟨Code.quiet_builtin _ (by decide +kernel), codeAny_builtin F.entry_type_call ?_⟩
  rw [Around.under_plain (weight_type_call_type "set" [.ref l] []) rfl]
  have k3 := F.called_set.notType
  have k4 := F.called_set.canCreate
  have k5 := F.typeCall_set_1 (.ref l)
  repeat (any_goals (first | assumption | wp_step))
  refine codeAny_mono (code_set_led1 (.ref l) (E := E) (Q₁ := fun obj t => obj = .ref s.heap.objs.size ∧ t = { s with heap := hp1 w s.heap }) ⟨rfl, rfl⟩) fun r t hr => ?_
  match r, hr with
  | .error e, hr => exact hr
  | .ok (.ret obj), ⟨e1, e2⟩ =>
    subst e1 e2
    have ty : Shared.TypeIs { s with heap := hp1 w s.heap } (.ref s.heap.objs.size) "set" := ⟨_, Heap.get?_push_size _ rfl, rfl⟩
    have k6 := F.called_set.init.lookup
    have k7 := F.called_set.init.bind (.ref s.heap.objs.size)
    repeat (any_goals (first | assumption | wp_step))
    refine codeAny_mono (setL_init (R := wants (fun r t => r = .none ∧ ∃ h' tk c, t = { s with heap := h', toks := tk } ∧ SetR w h' s.heap.objs.size (fun j => decide (j ∈ ns)) c ∧ c ≤ ns.length ∧ ∀ b o, s.heap.get? b = some o → h'.get? b = some o) E) ns ?_ hl hi hb fun h' tk c x1 x2 x3 => ⟨rfl, h', tk, c, rfl, x1, x2, x3⟩) fun r2 t2 hr2 => ?_
    · simp [hh]
    match r2, hr2 with
    | .error e, hr2 => exact hr2
    | .ok (.ret r), ⟨e3, h', tk, c, e4, x1, x2, x3⟩ =>
      subst e3 e4
      repeat (any_goals (first | assumption | wp_step))
      exact h _ _ _ x1 x2 x3
    | .ok .next, hr2 => exact hr2.elim
    | .ok .brk, hr2 => exact hr2.elim
    | .ok .cont, hr2 => exact hr2.elim
  | .ok .next, hr => exact hr.elim
  | .ok .brk, hr => exact hr.elim
  | .ok .cont, hr => exact hr.elim
end
end FL
/-! The functional layer, part N: names of the module, calls that let nothing out, what is walked of any kind, sorting, stores. -/
namespace FL
open PySem PySem.Spec PyProof.Rows L2
/-- a def of the text, as it stands behind the top -/
structure Dn (K : PySem.W.Frag) (mg : Str → Option Value) (x : Str) (st : Stmt) (ps : List Str) : Prop where
  ex : ∃ f fd, Fun K x x st f fd ∧ mg x = some (.ref f) ∧ PySem.W.keepIn K (.ref f) = true ∧ Binds K fd ps []
def nx0 (F : List D → Res OT) (ds : List D) : Res OT := match F ds with
  | .ex _ => .bad
  | r => r
def nxI (F : OT → List D → ResI) (t : OT) (ds : List D) : ResI := match F t ds with
  | .ex _ _ => .bad
  | r => r
theorem nx0_ok {F : List D → Res OT} {ds : List D} {t : OT} (h : F ds = .ok t) : nx0 F ds = .ok t := by unfold nx0; rw [h]
theorem nxI_ok {F : OT → List D → ResI} {t : OT} {ds : List D} {r u : OT} (h : F t ds = .ok r u) : nxI F t ds = .ok r u := by unfold nxI; rw [h]
theorem pxW0 {X : Cx} : ∀ σ, PassesAt (L2N.CX X.prog X.w) X σ (WE W0.w σ) := fun _ _ _ _ _ _ _ h => by
  obtain ⟨_, _, _, _, _, _, _, _, _, _, _, _, z⟩ := h
  exact z.elim
theorem Cal.zero {P : Program} {w : World} {K : PySem.W.Frag} {mg : Str → Option Value} {base : Heap} {CX : CXT} {on : Prop} {x : Str} {st : Stmt} {ps : List Str} {k : Nat} (d : Dn K mg x st ps) : Cal P w K mg base CX on x k (fun _ => .bad) := by
  obtain ⟨f, fd, _, hm, hk, hb⟩ := d.ex
  exact ⟨f, fd, ps, ⟨fun vs H Q E ⟨_, _, _, _, h⟩ => h.elim, fun _ _ _ _ _ _ _ _ _ _ _ _ _ ⟨_, _, _, _, h⟩ => h.elim⟩, hm, hk, hb⟩
theorem CalI.zero {P : Program} {w : World} {K : PySem.W.Frag} {mg : Str → Option Value} {base : Heap} {CX : CXT} {on : Prop} {x : Str} {st : Stmt} {ps : List Str} {k j : Nat} (d : Dn K mg x st ps) : CalI P w K mg base CX on x k j (fun _ _ => .bad) := by
  obtain ⟨f, fd, _, hm, hk, hb⟩ := d.ex
  exact ⟨f, fd, ps, ⟨fun vs H Q E ⟨_, _, _, _, _, _, _, _, _, _, _, _, h⟩ => h.elim, fun _ _ _ _ _ _ _ _ _ _ _ _ _ ⟨_, _, _, _, _, _, _, _, _, _, _, _, h⟩ => h.elim⟩, hm, hk, hb⟩
section
variable {X : Cx} {W : WW} {a b e : Expr} {es : List Expr} {f fa fb fi : En → Res D} {fs : En → Res (List D)} {x : Str} {k i j : Nat} {p pos : Pos} {CX : CXT}
theorem EF.gI {z : Int} (h : ∃ t, X.mg x = some (.int z t)) (hg : Gl X x := by rfl) (hd : (x == ("__debug__" : Str)) = false := by decide) : EF X W (.Name x pos) (c (.int z)) := by
  obtain ⟨t, hm⟩ := h
  exact EF.globI hm hg hd
theorem EF.gS {z : Str} (h : ∃ t, X.mg x = some (.str z t)) (hz : z.length ≤ sizeLine ∧ PyData.strOk z = true) (hg : Gl X x := by rfl) (hd : (x == ("__debug__" : Str)) = false := by decide) : EF X W (.Name x pos) (c (.str z)) := by
  obtain ⟨t, hm⟩ := h
  exact EF.globS hm hz hg hd
/-! calls that let nothing out -/
theorem EO.call0 {F : List D → Res OT} (c : Cal X.prog X.w X.K X.mg X.base CX0 False x k F) (hr : Room k X.A) (ha : EA X W (e :: es) fs) (hg : Gl X x := by rfl) (hdb : (x == ("__debug__" : Str)) = false := by decide)
    (he : starEach (e :: es) X.env = (false, eval e X.env) :: starEach es X.env := by rfl) (hpl : (backTo pos (starEach es X.env)).any (·.1) = false := by rfl) : EO X W (.Call (.Name x p) (e :: es) [] pos) (FL.call (nx0 F) fs) := ⟨fun B => by
  obtain ⟨f, fd, ps, hf, hm, hk, hb⟩ := c.ex
  refine PE.mono (pe_callS (E := WE W.w) hf hr hg hm hk hb px0 (ha.run B) hdb he hpl) fun σ H Q ⟨G, ρ, r, h⟩ => ?_
  refine lift.next (rel := relL X.K X.mg) (g := fun ds _ => nx0 F ds) later_O r h fun ds vs G1 H1 r1 s1 q1 w1 => ⟨G1, ds, r1.gh, q1, ?_⟩
  unfold nx0 at w1
  cases e : F ds with
  | ok t => rw [e] at w1; exact w1
  | ex c => rw [e] at w1; exact w1.elim
  | bad => rw [e] at w1; exact w1⟩
theorem EX.call0 {F : OT → List D → ResI} (c : CalI X.prog X.w X.K X.mg X.base CX0 False x k j F) (hr : Room k X.A) (ha : EAI X W i j (e :: es) fs) (hg : Gl X x := by rfl) (hdb : (x == ("__debug__" : Str)) = false := by decide)
    (he : starEach (e :: es) X.env = (false, eval e X.env) :: starEach es X.env := by rfl) (hpl : (backTo pos (starEach es X.env)).any (·.1) = false := by rfl) : EX X W (.Call (.Name x p) (e :: es) [] pos) (FL.callI (nxI F) i fs) := by
  have c' : CalI X.prog X.w X.K X.mg X.base CX0 True x k j (nxI F) := by
    obtain ⟨f, fd, ps, hf, hm, hk, hb⟩ := c.ex
    refine ⟨f, fd, ps, hf.imp fun vs H Q E ⟨G, t, ds, vj, ws, fp, a1, a2, a3, a4, a5, a6, h⟩ => ⟨G, t, ds, vj, ws, fp, a1, a2, a3, a4, a5, a6, ?_⟩, hm, hk, hb⟩
    unfold nxI at h
    cases e : F t ds with
    | ok r t' => rw [e] at h; exact h
    | ex c t' => rw [e] at h; exact h.elim
    | bad => rw [e] at h; exact h
  exact EX.call c' hr px0 (fun _ => trivial) ha hg hdb he hpl
/-! what is walked, of any kind that is known -/
def itQ : D → Option (List D)
  | .lst xs => some xs
  | .tup xs => some xs
  | .str z => some (z.cps.toList.map fun c => .str ⟨#[c]⟩)
  | .scr ns => if ns.length ≤ 16777216 then some (ns.map .int) else none
  | _ => none
def itC : D → Option (List D)
  | .scr ns => if ns.length ≤ 16777216 then some (ns.map .int) else none
  | _ => none
theorem PI.or {tg : Expr} {t1 t2 : TI} (h1 : PI X tg e t1) (h2 : PI X tg e t2) : PI X tg e fun σ H R => t1 σ H R ∨ t2 σ H R := ⟨fun pins s σ H R I q => q.elim (h1.run pins s σ H R I) (h2.run pins s σ H R I)⟩
theorem walks_scr {K : PySem.W.Frag} {mg : Str → Option Value} {G : Hp} {p : Addr} {ns : List Int} (h : SqL K G p (ns.map V.int)) : Walks K mg (Itl K p) G (ns.map .int) := fun i G' H g gh => by
  have sq : SqL K H p (ns.map V.int) := gh.seq (g.seq h)
  refine ⟨fun hl => ⟨_, sq, by simpa using hl⟩, fun d hd => ?_⟩
  rw [List.getElem?_map] at hd
  obtain ⟨n, h1, rfl⟩ := Option.map_eq_some_iff.mp hd
  refine ⟨⟨_, .int n, sq, by rw [List.getElem?_map, h1]; rfl⟩, fun x H' ⟨e1, y⟩ => ?_⟩
  subst e1
  have ex := y _ sq
  rw [List.getElem?_map, h1] at ex
  cases ex
  exact ⟨G', Stp.refl gh, rfl⟩
theorem EI.scr {tg : Expr} (h : EF X W e f) : EI X W tg e (it1 itC f) := ⟨fun B => PI.mono (pi_list (h.run B)) fun σ H Q ⟨G, ρ, r, h⟩ =>
  lift.next (rel := relD X.K X.mg) (g := fun d _ => ofO (itC d)) later_I r h fun d x G1 H1 r1 s1 q1 w1 => by
    cases d <;> first | exact w1.elim | skip
    rename_i ns
    unfold itC at w1
    dsimp only at w1
    by_cases hl : ns.length ≤ 16777216
    · rw [if_pos hl] at w1
      obtain ⟨p, rfl, q⟩ := q1
      exact ⟨p, rfl, ⟨_, r1.gh.seq q⟩, Wr.ok w1 (Stp.refl r1.gh) ⟨by rw [List.length_map]; exact sz_le hl, walks_scr q⟩⟩
    · rw [if_neg hl] at w1
      exact w1.elim⟩
theorem it1_of {g g' : D → Option (List D)} {ρ : En} (h : ∀ d, f ρ = .ok d → g d = g' d) : it1 g f ρ = it1 g' f ρ := by
  unfold it1
  cases e : f ρ with
  | ok d => simp only [Res.bind_ok, h d e]
  | ex _ => rfl
  | bad => rfl
theorem EI.sq {tg : Expr} (h : EF X W e f) : EI X W tg e (it1 itQ f) := ⟨fun B => PI.mono (PI.or ((EI.list h).run B) (PI.or ((EI.tup h).run B) (PI.or ((EI.str h).run B) ((EI.scr h).run B)))) fun σ H Q ⟨G, ρ, r, h⟩ => by
  have go : ∀ {g : D → Option (List D)}, (∀ d, f ρ = .ok d → g d = itQ d) → lift X W (relI X.K X.mg) B (it1 g f) σ H Q := fun hg => ⟨G, ρ, r, by rw [it1_of hg]; exact h⟩
  cases e : f ρ with
  | ok d =>
    cases d with
    | lst xs => exact .inl (go fun d h => by rw [e] at h; cases h; rfl)
    | tup xs => exact .inr (.inl (go fun d h => by rw [e] at h; cases h; rfl))
    | str z => exact .inr (.inr (.inl (go fun d h => by rw [e] at h; cases h; rfl)))
    | scr ns => exact .inr (.inr (.inr (go fun d h => by rw [e] at h; cases h; rfl)))
    | _ =>
      unfold it1 at h
      rw [e] at h
      exact h.elim
  | ex c => exact .inl (go fun d h => by rw [e] at h; cases h)
  | bad => exact .inl (go fun d h => by rw [e] at h; cases h)⟩
end
end FL
/-! The functional layer, part O: isinstance, is True, tuple, sorted, sets sorted. -/
namespace FL
open PySem PySem.Spec PyProof.Rows L2
/-! ### isinstance of a built-in type -/
def tyOf : D → Option String
  | .non => some "NoneType"
  | .bl _ => some "bool"
  | .int _ => some "int"
  | .str _ => some "str"
  | .lst _ => some "list"
  | .tup _ => some "tuple"
  | .scr _ => some "list"
  | .exn _ => none
  | .dK _ _ => some "dict"
  | .dT _ _ => none
  | .ins _ _ _ => none
def isiD (T : String) (d : D) : Option D := (tyOf d).bind fun t => (kitB t T).map .bl
theorem tyOf_ok {K : PySem.W.Frag} {mg : Str → Option Value} {G H : Hp} (gh : Same G H) {d : D} {x : V} {t : String} (h : R K mg G d x) (e : tyOf d = some t) : TyX K H x (.type t) := by
  cases d <;> cases e
  · rw [show x = .non from h]; exact .base .non
  · rw [show x = .bl _ from h]; exact .base (.bl _)
  · rw [show x = .int _ from h]; exact .base (.int _)
  · rw [show x = .str _ from h.1]; exact .base (.str _)
  · obtain ⟨a, vs, rfl, _, e, _⟩ := h; exact .base (.lst (gh _ _ e))
  · obtain ⟨a, vs, rfl, _, e, _⟩ := h; exact .base (.tup (gh _ _ e))
  · obtain ⟨a, vs, rfl, _, e, _⟩ := h
    rcases e with e | ⟨o, e⟩
    · exact .base (.dK (gh _ _ e))
    · exact .fDict (gh _ _ e)
  · obtain ⟨a, rfl, h⟩ := h
    rcases h with (h | ⟨o, h⟩) | ⟨o, its, n, h1, h2, _⟩
    · exact .base (.lst (gh _ _ h))
    · exact .base (.frz (gh _ _ h))
    · exact .kList h1 h2
section
variable {X : Cx} {W : WW} {a b e : Expr} {es : List Expr} {f fa fb fi : En → Res D} {fs : En → Res (List D)} {p p2 pos : Pos}
theorem EF.isi {T : String} {y : Str} (hm : X.mg "isinstance" = none) (hm2 : X.mg y = none) (ha : EF X W a f) (hv : bootBuiltins y = some (.type T) := by decide +kernel) (hg : Gl X "isinstance" := by rfl) (hg2 : Gl X y := by rfl) (hn : y ≠ "__name__" := by decide) (hd : (y == ("__debug__" : Str)) = false := by decide)
    (hs : starEach [a, .Name y p2] X.env = (false, eval a X.env) :: starEach [.Name y p2] X.env := by rfl) (hs2 : starEach [.Name y p2] X.env = (false, eval (.Name y p2) X.env) :: starEach [] X.env := by rfl) (hpl : (backTo pos (starEach [.Name y p2] X.env)).any (·.1) = false := by rfl) :
    EF X W (.Call (.Name "isinstance" p) [a, .Name y p2] [] pos) (op1 (isiD T) f) := ⟨fun B =>
  PE.mono (pe_callB call_isi hg hm (by decide +kernel) (pa_cons (ha.run B) (pa_cons (pe_bltn (v := .ty T) hg2 hm2 hv rfl hn hd) pa_nil hs2) hs) (by decide) (by decide) hs hpl) fun σ H Q ⟨G, ρ, r, h⟩ =>
    lift.next (rel := relD X.K X.mg) (g := fun x _ => FL.ofO (isiD T x)) later_D r h fun d x G1 H1 r1 s1 q1 w1 => by
      unfold isiD at w1
      cases et : tyOf d with
      | none => rw [et] at w1; exact w1.elim
      | some t =>
        rw [et, Option.bind_some] at w1
        cases ek : kitB t T with
        | none => rw [ek] at w1; exact w1.elim
        | some k =>
          rw [ek] at w1
          exact ⟨x, .ty T, .type t, .type T, k, rfl, .ty T, tyOf_ok r1.gh q1 et, kit_ty ek, w1.ok (Stp.refl r1.gh) rfl⟩⟩
/-! ### x is True, x is False -/
def isBl (b : Bool) : D → Option D
  | .bl a => some (.bl (a == b))
  | _ => some (.bl false)
def notBl (b : Bool) : D → Option D
  | .bl a => some (.bl (!(a == b)))
  | _ => some (.bl true)
theorem R.notBool {K : PySem.W.Frag} {mg : Str → Option Value} {G : Hp} {d : D} {x : V} {v : Value} (h : R K mg G d x) (n : ∀ b, d ≠ .bl b) (rv : RelV x v) : ∀ b, plainIs v (.bool b) = true ∧ v ≠ .bool b := fun b => by
  cases d with
  | bl k => exact absurd rfl (n k)
  | non => cases (show x = .non from h); cases (show v = .none from rv); exact ⟨rfl, fun z => nomatch z⟩
  | int i => cases (show x = .int i from h); obtain ⟨t, rfl⟩ := (show ∃ t, v = .int i t from rv); exact ⟨rfl, fun z => nomatch z⟩
  | str z => cases (show x = .str z from h.1); obtain ⟨t, rfl⟩ := (show ∃ t, v = .str z t from rv); exact ⟨rfl, fun z => nomatch z⟩
  | lst ds => obtain ⟨a, vs, rfl, _⟩ := h; cases (show v = .ref a from rv); exact ⟨rfl, fun z => nomatch z⟩
  | tup ds => obtain ⟨a, vs, rfl, _⟩ := h; cases (show v = .ref a from rv); exact ⟨rfl, fun z => nomatch z⟩
  | dK ks ds => obtain ⟨a, vs, rfl, _⟩ := h; cases (show v = .ref a from rv); exact ⟨rfl, fun z => nomatch z⟩
  | dT ks ds => obtain ⟨a, vs, rfl, _⟩ := h; cases (show v = .ref a from rv); exact ⟨rfl, fun z => nomatch z⟩
  | ins C ns ds => obtain ⟨a, _, _, vs, rfl, _⟩ := h; cases (show v = .ref a from rv); exact ⟨rfl, fun z => nomatch z⟩
  | scr ns => obtain ⟨a, rfl, _⟩ := h; cases (show v = .ref a from rv); exact ⟨rfl, fun z => nomatch z⟩
  | exn a => cases (show x = .ref a from h); cases (show v = .ref a from rv); exact ⟨rfl, fun z => nomatch z⟩
theorem EC.isB {k : Bool} {j pos'} (ha : EF X W a f) : EC X W .Is a (.Constant (.bool k) j pos') (op1 (isBl k) f) := ⟨fun B => PC.mono (pc_op (r := fun x y H Q => ∃ G d, R X.K X.mg G d x ∧ y = .bl k ∧ (match isBl k d with | some (.bl b) => Q (.bl b) H | _ => False)) (fun pins s σ H x y v u Q I rx ry ⟨G, d, hd, ey, q⟩ => by
    subst ey
    cases (show u = Value.bool k from ry)
    cases d with
    | bl a =>
      cases (show x = .bl a from hd)
      cases (show v = Value.bool a from rx)
      dsimp only [isBl] at q
      by_cases e : a = k
      · subst e; exact wpAny_is_self rfl ⟨.bl true, H, I, rfl, by simpa using q⟩
      · exact wpAny_is_other rfl (fun z => e (Value.bool.inj z)) ⟨.bl false, H, I, rfl, by rw [show (a == k) = false from beq_eq_false_iff_ne.mpr e] at q; exact q⟩
    | _ =>
      obtain ⟨p1, p2⟩ := R.notBool hd (fun b z => nomatch z) rx k
      exact wpAny_is_other p1 p2 ⟨.bl false, H, I, rfl, q⟩) (ha.run B) (EF.bl (W := W).run B)) fun σ H Q ⟨G, ρ, r, h⟩ =>
  lift.next (rel := relD X.K X.mg) (g := fun x _ => FL.ofO (isBl k x)) later_D r h fun d x G1 H1 r1 s1 q1 w1 =>
    ⟨G1, ρ, r1, fun y G2 H2 s2 q2 => ⟨G2, d, R.mono s2.gg q1, q2, by
      cases d <;> exact Wr.ok (rel := relD X.K X.mg) (k := fun _ v _ H' => Q v H') w1 s2 rfl⟩⟩⟩
theorem EC.notB {k : Bool} {j pos'} (ha : EF X W a f) : EC X W .IsNot a (.Constant (.bool k) j pos') (op1 (notBl k) f) := ⟨fun B => PC.mono (pc_op (r := fun x y H Q => ∃ G d, R X.K X.mg G d x ∧ y = .bl k ∧ (match notBl k d with | some (.bl b) => Q (.bl b) H | _ => False)) (fun pins s σ H x y v u Q I rx ry ⟨G, d, hd, ey, q⟩ => by
    subst ey
    cases (show u = Value.bool k from ry)
    cases d with
    | bl a =>
      cases (show x = .bl a from hd)
      cases (show v = Value.bool a from rx)
      dsimp only [notBl] at q
      by_cases e : a = k
      · subst e; exact wpAny_isNot_self rfl ⟨.bl false, H, I, rfl, by simpa using q⟩
      · exact wpAny_isNot_other rfl (fun z => e (Value.bool.inj z)) ⟨.bl true, H, I, rfl, by rw [show (a == k) = false from beq_eq_false_iff_ne.mpr e] at q; exact q⟩
    | _ =>
      obtain ⟨p1, p2⟩ := R.notBool hd (fun b z => nomatch z) rx k
      exact wpAny_isNot_other p1 p2 ⟨.bl true, H, I, rfl, q⟩) (ha.run B) (EF.bl (W := W).run B)) fun σ H Q ⟨G, ρ, r, h⟩ =>
  lift.next (rel := relD X.K X.mg) (g := fun x _ => FL.ofO (notBl k x)) later_D r h fun d x G1 H1 r1 s1 q1 w1 =>
    ⟨G1, ρ, r1, fun y G2 H2 s2 q2 => ⟨G2, d, R.mono s2.gg q1, q2, by
      cases d <;> exact Wr.ok (rel := relD X.K X.mg) (k := fun _ v _ H' => Q v H') w1 s2 rfl⟩⟩⟩
/-! ### tuple, sorted -/
def tupleD : List D → Option D
  | [.lst ds] => some (.tup ds)
  | [.tup ds] => some (.tup ds)
  | _ => none
theorem tuple_ok : CallD X (.type "tuple") tupleD := by
  rintro pins s σ H xs us Q I r ⟨G, ds, c, gh, q, hg, k⟩
  unfold tupleD at hg
  split at hg
  · cases hg
    obtain ⟨v, rfl, q0⟩ := q.one
    obtain ⟨p, vs, rfl, l, e1, q1⟩ := R.lst q0
    exact call_tuple_of pins s σ H _ us Q I r ⟨p, vs, rfl, .inl ⟨SqL.of (gh _ _ e1), fun l' hl => k _ _ _ (Stp.new gh hl) (R.newT (gh.free hl) l q1)⟩⟩
  · cases hg
    obtain ⟨v, rfl, q0⟩ := q.one
    obtain ⟨p, vs, rfl, l, e1, q1⟩ := R.tup q0
    exact call_tuple_of pins s σ H _ us Q I r ⟨p, vs, rfl, .inr ⟨SqT.of (gh _ _ e1), k _ _ _ (Stp.refl gh) ⟨p, vs, rfl, l, e1, q1⟩⟩⟩
  · cases hg
def leS (a b : Str) : Bool := !decide (b.cps.toList < a.cps.toList)
def sortI (ns : List Int) : List Int := ns.mergeSort fun a b => decide (a ≤ b)
def sortS (zs : List Str) : List Str := zs.mergeSort leS
theorem sortI_perm (ns : List Int) : (sortI ns).Perm ns := List.mergeSort_perm ..
theorem sortI_sorted (ns : List Int) : (sortI ns).Pairwise (· ≤ ·) := by
  have h := List.pairwise_mergeSort (le := fun (a b : Int) => decide (a ≤ b)) (fun a b c h1 h2 => by simp at *; omega) (fun a b => by simp; omega) ns
  exact h.imp fun h => by simpa using h
theorem sortI_uniq {ns ms : List Int} (p : ms.Perm ns) (s : ms.Pairwise (· ≤ ·)) : ms = sortI ns :=
  List.Perm.eq_of_pairwise (fun a b _ _ h1 h2 => Int.le_antisymm h1 h2) s (sortI_sorted ns) (p.trans (sortI_perm ns).symm)
def strsOf : List D → Option (List Str)
  | [] => some []
  | .str i :: ds => (strsOf ds).map (i :: ·)
  | _ :: _ => none
def dedup (ns : List Int) : List Int := ns.foldr (fun a l => if a ∈ l then l else a :: l) []
theorem dedup_mem {a : Int} : ∀ {ns : List Int}, a ∈ dedup ns ↔ a ∈ ns
  | [] => Iff.rfl
  | b :: ns => by
    show a ∈ (if b ∈ dedup ns then dedup ns else b :: dedup ns) ↔ _
    have ih := dedup_mem (a := a) (ns := ns)
    have ihb := dedup_mem (a := b) (ns := ns)
    split
    · rename_i h
      rw [List.mem_cons, ih]
      exact ⟨.inr, fun h' => h'.elim (fun z => z ▸ ihb.mp h) id⟩
    · rw [List.mem_cons, List.mem_cons, ih]
theorem dedup_nodup : ∀ (ns : List Int), (dedup ns).Nodup
  | [] => List.nodup_nil
  | b :: ns => by
    show (if b ∈ dedup ns then dedup ns else b :: dedup ns).Nodup
    split
    · exact dedup_nodup ns
    · exact List.nodup_cons.mpr ⟨by assumption, dedup_nodup ns⟩
theorem lt_uniq : ∀ {xs ys : List Int}, xs.Pairwise (· < ·) → ys.Pairwise (· < ·) → (∀ k, k ∈ xs ↔ k ∈ ys) → xs = ys := fun {xs ys} h1 h2 h =>
  List.Perm.eq_of_pairwise (le := (· < ·)) (fun a b _ _ p q => by omega) h1 h2 ((List.perm_ext_iff_of_nodup (h1.imp fun h => by omega) (h2.imp fun h => by omega)).mpr h)
theorem dedup_len : ∀ (ns : List Int), (dedup ns).length ≤ ns.length
  | [] => Nat.le_refl _
  | b :: ns => by
    show (if b ∈ dedup ns then dedup ns else b :: dedup ns).length ≤ _
    have := dedup_len ns
    split <;> simp <;> omega
def sortSetO : List D → Option OT
  | [.lst ds] => (intsOf ds).bind fun ns => if ns.length < 64 then some (.lst ((sortI (dedup ns)).map fun i => .d (.int i))) else none
  | [.tup ds] => (intsOf ds).bind fun ns => if ns.length < 64 then some (.lst ((sortI (dedup ns)).map fun i => .d (.int i))) else none
  | _ => none
theorem Rs.ints {K : PySem.W.Frag} {mg : Str → Option Value} {G : Hp} : ∀ (ns : List Int), Rs K mg G (ns.map .int) (ns.map V.int)
  | [] => rfl
  | n :: ns => ⟨_, _, rfl, rfl, Rs.ints ns⟩
theorem sortI_lt {ns : List Int} (nd : ns.Nodup) : (sortI ns).Pairwise (· < ·) := by
  have h1 := sortI_sorted ns
  have h2 : (sortI ns).Nodup := (sortI_perm ns).nodup_iff.mpr nd
  exact (h1.and h2).imp fun ⟨a, b⟩ => by omega
def rSetLi (K : PySem.W.Frag) (w : World) : List V → Hp → VK → Prop := fun xs H Q => ∃ (l : Addr) (ns : List Int), xs = [.ref l] ∧ (SqL K H l (ns.map V.int) ∨ SqT K H l (ns.map V.int)) ∧ ns.length < 64 ∧ ∀ q n, H q = none → n ≤ ns.length → Q (.ref q) (upd H q (SetO w q (fun j => decide (j ∈ ns)) n))
theorem cr_setLi (hc : X.calm = true) : CallR X (.type "set") (rSetLi X.K X.w) := by
  intro pins s σ H xs us Q I r h
  obtain ⟨l, ns, rfl, hl, h64, q⟩ := h
  rw [Vals.ref1 r]
  have hf : H s.heap.objs.size = none := I.hok.fresh (Nat.le_refl _)
  rcases hl with hl | hl
  · obtain ⟨its, rv, pl, hz⟩ := I.list hl
    refine call_setL (P := X.prog) ns (I.ok.hd hc) pl.isList (by simpa using rv.ints) (by unfold scanBound; omega) fun h' tk n R hn k => ?_
    exact ⟨.ref s.heap.objs.size, _, I.laid (t' := tk) k (Nat.le_refl _) (setO_new R), rfl, q _ n hf hn⟩
  · obtain ⟨its, rv, pt, hz⟩ := I.tuple hl
    refine call_set_tupI ns (I.ok.hd hc) (show s.heap.IsTuple l its.toArray from pt) (by simpa using rv.ints) (by unfold scanBound; omega) fun h' tk n R hn k => ?_
    exact ⟨.ref s.heap.objs.size, _, I.laid (t' := tk) k (Nat.le_refl _) (setO_new R), rfl, q _ n hf hn⟩
theorem EO.sortSet {q : Pos} (hm : X.mg "sorted" = none) (hm2 : X.mg "set" = none) (hc : X.calm = true) (ha : EA X W [a] fs) (hg : Gl X "sorted" := by rfl) (hg2 : Gl X "set" := by rfl) (na : starEach [a] X.env = (false, eval a X.env) :: starEach [] X.env := by rfl) (nb : (backTo q (starEach [] X.env)).any (·.1) = false := by rfl)
    (nc : starEach [.Call (.Name "set" p2) [a] [] q] X.env = (false, eval (.Call (.Name "set" p2) [a] [] q) X.env) :: starEach [] X.env := by rfl) (nd : (backTo pos (starEach [] X.env)).any (·.1) = false := by rfl) : EO X W (.Call (.Name "sorted" p) [.Call (.Name "set" p2) [a] [] q] [] pos) (cal sortSetO fs) := ⟨fun B =>
  PE.mono (pe_callB (cr_sortedSet hc) hg hm (by decide +kernel) (pa_cons (pe_callTy (cr_setLi hc) hg2 hm2 (by decide +kernel) (ha.run B) (by decide) (by decide) na nb) pa_nil nc) (by decide) (by decide) nc nd) fun σ H Q ⟨G, ρ, r, h⟩ =>
    lift.next (rel := relL X.K X.mg) (g := fun ds _ => FL.ofO (sortSetO ds)) later_O r h fun ds vs G1 H1 r1 s1 q1 w1 => by
      cases hs : sortSetO ds with
      | none => rw [hs] at w1; exact w1.elim
      | some t =>
        rw [hs] at w1
        unfold sortSetO at hs
        split at hs
        · rename_i xs
          obtain ⟨ns, hn, hs⟩ := Option.bind_eq_some_iff.mp hs
          split at hs
          · rename_i h64
            cases hs
            obtain ⟨v, rfl, q0⟩ := q1.one
            obtain ⟨l, us, rfl, _, e1, q2⟩ := R.lst q0
            refine ⟨l, ns, rfl, by rw [← ints_ok q2 hn]; exact .inl (SqL.of (r1.gh _ _ e1)), h64, fun q n hq hn => ?_⟩
            refine ⟨q, _, n, rfl, upd_same, Nat.lt_of_le_of_lt hn h64, fun ms p hp hm _ hpn => ?_⟩
            have e : ms = sortI (dedup ns) := lt_uniq hp (sortI_lt (dedup_nodup ns)) fun k => by
              rw [hm, (sortI_perm _).mem_iff, dedup_mem]
              simp
            subst e
            have st := Stp.own (o := SetO X.w q (fun j => decide (j ∈ ns)) n) r1.gh hq
            have hpq : H1 p = none := st.hh.free hpn
            refine Wr.ok (rel := relO X.K X.mg) (k := fun _ v _ H' => Q v H') w1 (st.trans (Stp.own st.gh hpn)) ?_
            refine later_O _ _ _ _ _ _ st.hh ?_
            have rl := relO.newL (K := X.K) (mg := X.mg) st.gh hpn (by rw [List.length_map]; exact sz_le (by rw [(sortI_perm _).length_eq]; have := dedup_len ns; omega)) (Rs.ints (K := X.K) (mg := X.mg) (G := G1) (sortI (dedup ns)))
            rw [List.map_map] at rl
            exact rl
          · cases hs
        · rename_i xs
          obtain ⟨ns, hn, hs⟩ := Option.bind_eq_some_iff.mp hs
          split at hs
          · rename_i h64
            cases hs
            obtain ⟨v, rfl, q0⟩ := q1.one
            obtain ⟨l, us, rfl, _, e1, q2⟩ := R.tup q0
            refine ⟨l, ns, rfl, by rw [← ints_ok q2 hn]; exact .inr (SqT.of (r1.gh _ _ e1)), h64, fun q n hq hn => ?_⟩
            refine ⟨q, _, n, rfl, upd_same, Nat.lt_of_le_of_lt hn h64, fun ms p hp hm _ hpn => ?_⟩
            have e : ms = sortI (dedup ns) := lt_uniq hp (sortI_lt (dedup_nodup ns)) fun k => by
              rw [hm, (sortI_perm _).mem_iff, dedup_mem]
              simp
            subst e
            have st := Stp.own (o := SetO X.w q (fun j => decide (j ∈ ns)) n) r1.gh hq
            have hpq : H1 p = none := st.hh.free hpn
            refine Wr.ok (rel := relO X.K X.mg) (k := fun _ v _ H' => Q v H') w1 (st.trans (Stp.own st.gh hpn)) ?_
            refine later_O _ _ _ _ _ _ st.hh ?_
            have rl := relO.newL (K := X.K) (mg := X.mg) st.gh hpn (by rw [List.length_map]; exact sz_le (by rw [(sortI_perm _).length_eq]; have := dedup_len ns; omega)) (Rs.ints (K := X.K) (mg := X.mg) (G := G1) (sortI (dedup ns)))
            rw [List.map_map] at rl
            exact rl
          · cases hs
        · cases hs⟩
/-! sorted of a list of ints, of texts; of a dict -/
theorem ltCps_eq : ∀ a b : List Nat, ltCps a b = decide (a < b)
  | [], [] => by simp [ltCps]
  | [], y :: ys => by simp [ltCps]
  | x :: xs, [] => by simp [ltCps]
  | x :: xs, y :: ys => by
    rw [ltCps, ltCps_eq xs ys]
    by_cases h : x < y
    · simp [h, List.cons_lt_cons_iff]
    · by_cases h2 : x = y
      · subst h2
        simp [List.cons_lt_cons_iff]
      · simp [h, h2, List.cons_lt_cons_iff]
theorem str_ext {a b : Str} (h : a.cps.toList = b.cps.toList) : a = b := by
  obtain ⟨⟨x⟩⟩ := a
  obtain ⟨⟨y⟩⟩ := b
  cases (show x = y from h)
  rfl
theorem leS_trans (a b c : Str) (h1 : leS a b = true) (h2 : leS b c = true) : leS a c = true := by
  unfold leS at *
  simp only [Bool.not_eq_true', decide_eq_false_iff_not, List.not_lt] at *
  exact List.le_trans h1 h2
theorem leS_total (a b : Str) : (leS a b || leS b a) = true := by
  unfold leS
  simp only [Bool.or_eq_true, Bool.not_eq_true', decide_eq_false_iff_not, List.not_lt]
  exact List.le_total ..
theorem leS_anti {a b : Str} (h1 : leS a b = true) (h2 : leS b a = true) : a = b := by
  unfold leS at *
  simp only [Bool.not_eq_true', decide_eq_false_iff_not, List.not_lt] at *
  exact str_ext (List.le_antisymm h1 h2)
theorem rising_pw : ∀ (p : Str) (r : List Str), risingS p r = true → (p :: r).Pairwise (fun a b => leS a b = true)
  | p, [], _ => by simp
  | p, x :: r, h => by
    rw [risingS, Bool.and_eq_true] at h
    have ih := rising_pw x r h.2
    have hx : leS p x = true := by unfold leS; rw [← ltCps_eq]; exact h.1
    refine List.pairwise_cons.mpr ⟨fun y hy => ?_, ih⟩
    rcases List.mem_cons.mp hy with rfl | hy
    · exact hx
    · exact leS_trans _ _ _ hx ((List.pairwise_cons.mp ih).1 y hy)
theorem sortS_uniq {ns ms : List Str} (p : ms.Perm ns) (s : sortedS ms = true) : ms = sortS ns := by
  have h : ms.Pairwise (fun a b => leS a b = true) := by
    cases ms with
    | nil => exact .nil
    | cons x r => exact rising_pw x r s
  exact List.Perm.eq_of_pairwise (fun a b _ _ h1 h2 => leS_anti h1 h2) h (List.pairwise_mergeSort leS_trans leS_total ns) (p.trans (List.mergeSort_perm ..).symm)
theorem strs_ok {K : PySem.W.Frag} {mg : Str → Option Value} {G : Hp} : ∀ {ds : List D} {vs : List V} {bs : List Str}, Rs K mg G ds vs → strsOf ds = some bs → vs = bs.map V.str ∧ ∀ z ∈ bs, z.length ≤ sizeLine ∧ PyData.strOk z = true
  | [], _, _, h, e => by cases e; exact ⟨h, fun z hz => absurd hz (by simp)⟩
  | d :: ds, _, bs, ⟨v, r, e, h, t⟩, q => by
    cases d <;> first | cases q | skip
    unfold strsOf at q
    obtain ⟨cs, hc, rfl⟩ := Option.map_eq_some_iff.mp q
    obtain ⟨i1, i2⟩ := strs_ok t hc
    refine ⟨by rw [e, show v = .str _ from h.1, i1]; rfl, fun z hz => ?_⟩
    rcases List.mem_cons.mp hz with rfl | hz
    · exact h.2
    · exact i2 z hz
theorem Rs.strs {K : PySem.W.Frag} {mg : Str → Option Value} {G : Hp} : ∀ (ns : List Str), (∀ z ∈ ns, z.length ≤ sizeLine ∧ PyData.strOk z = true) → Rs K mg G (ns.map .str) (ns.map V.str)
  | [], _ => rfl
  | n :: ns, h => ⟨_, _, rfl, ⟨rfl, h n List.mem_cons_self⟩, Rs.strs ns fun z hz => h z (List.mem_cons_of_mem _ hz)⟩
def keyI : List Key → Option (List Int)
  | [] => some []
  | .inl i :: ks => (keyI ks).map (i :: ·)
  | .inr _ :: _ => none
def keyS : List Key → Option (List Str)
  | [] => some []
  | .inr z :: ks => (keyS ks).map (z :: ·)
  | .inl _ :: _ => none
theorem keyI_eq : ∀ {ks : List Key} {ns : List Int}, keyI ks = some ns → ks = ns.map Sum.inl
  | [], _, h => by cases h; rfl
  | .inl i :: ks, _, h => by
    obtain ⟨ms, hm, rfl⟩ := Option.map_eq_some_iff.mp h
    rw [keyI_eq hm]; rfl
  | .inr _ :: _, _, h => by cases h
theorem keyS_eq : ∀ {ks : List Key} {ns : List Str}, keyS ks = some ns → ks = ns.map Sum.inr
  | [], _, h => by cases h; rfl
  | .inr i :: ks, _, h => by
    obtain ⟨ms, hm, rfl⟩ := Option.map_eq_some_iff.mp h
    rw [keyS_eq hm]; rfl
  | .inl _ :: _, _, h => by cases h
def oI (ns : List Int) : OT := .lst (ns.map fun i => .d (.int i))
def oS (ns : List Str) : OT := .lst (ns.map fun i => .d (.str i))
def okS (z : Str) : Bool := decide (z.length ≤ 16777216) && PyData.strOk z
def sortO : List D → Option OT
  | [.lst ds] => match intsOf ds with
    | some ns => some (oI (sortI ns))
    | none => match strsOf ds with
      | some zs => if zs.length < 64 then some (oS (sortS zs)) else none
      | none => none
  | [.dK ks _] => match keyI ks with
    | some ns => if ns.length < 64 then some (oI (sortI ns)) else none
    | none => match keyS ks with
      | some zs => if zs.length < 64 ∧ zs.all okS = true then some (oS (sortS zs)) else none
      | none => none
  | _ => none
theorem relO.ints {K : PySem.W.Frag} {mg : Str → Option Value} {G H : Hp} {p : Addr} {ns : List Int} (g : Same G H) (n : H p = none) (l : ns.length ≤ sizeLine) : relO K mg H G (upd H p (.lst (ns.map V.int))) (oI ns) (.ref p) := by
  have h := relO.newL (K := K) (mg := mg) g n (by rw [List.length_map]; exact l) (Rs.ints (K := K) (mg := mg) (G := G) ns)
  rw [List.map_map] at h
  exact h
theorem relO.strs {K : PySem.W.Frag} {mg : Str → Option Value} {G H : Hp} {p : Addr} {ns : List Str} (g : Same G H) (n : H p = none) (l : ns.length ≤ sizeLine) (o : ∀ z ∈ ns, z.length ≤ sizeLine ∧ PyData.strOk z = true) : relO K mg H G (upd H p (.lst (ns.map V.str))) (oS ns) (.ref p) := by
  have h := relO.newL (K := K) (mg := mg) g n (by rw [List.length_map]; exact l) (Rs.strs (K := K) (mg := mg) (G := G) ns o)
  rw [List.map_map] at h
  exact h
theorem sortI_len (ns : List Int) : (sortI ns).length = ns.length := (sortI_perm ns).length_eq
theorem sortS_perm (ns : List Str) : (sortS ns).Perm ns := List.mergeSort_perm ..
theorem sortS_len (ns : List Str) : (sortS ns).length = ns.length := (sortS_perm ns).length_eq
theorem intsOf_len : ∀ {ds : List D} {ns : List Int}, intsOf ds = some ns → ns.length = ds.length
  | [], _, h => by cases h; rfl
  | d :: ds, ns, h => by
    cases d <;> first | cases h | skip
    obtain ⟨ms, hm, rfl⟩ := Option.map_eq_some_iff.mp h
    rw [List.length_cons, List.length_cons, intsOf_len hm]
theorem sorted_ok (hc : X.calm = true) : CallO X (.builtin "sorted") sortO := by
  rintro pins s σ H xs us Q I r ⟨G, ds, t, gh, q, hg, k⟩
  unfold sortO at hg
  split at hg
  · rename_i ds
    obtain ⟨v, rfl, q0⟩ := q.one
    obtain ⟨p, vs, rfl, l, e1, q1⟩ := R.lst q0
    cases hi : intsOf ds with
    | some ns =>
      rw [hi] at hg
      cases hg
      refine cr_sortedI pins s σ H _ us Q I r ⟨p, ns, rfl, by rw [← ints_ok q1 hi]; exact SqL.of (gh _ _ e1), fun ms b hp hs hb => ?_⟩
      rw [sortI_uniq hp hs]
      exact k _ _ _ (Stp.own gh hb) (relO.ints gh hb (by rw [sortI_len, intsOf_len hi]; exact l))
    | none =>
      rw [hi] at hg
      dsimp only at hg
      cases hz : strsOf ds with
      | none => rw [hz] at hg; cases hg
      | some zs =>
        rw [hz] at hg
        dsimp only at hg
        split at hg
        · rename_i h64
          cases hg
          obtain ⟨i1, i2⟩ := strs_ok q1 hz
          refine cr_sortedS pins s σ H _ us Q I r ⟨p, zs, rfl, by rw [← i1]; exact SqL.of (gh _ _ e1), h64, fun ms b hp hs hb => ?_⟩
          rw [sortS_uniq hp hs]
          exact k _ _ _ (Stp.own gh hb) (relO.strs gh hb (by rw [sortS_len]; exact sz_le (by omega)) fun z hz => i2 z ((sortS_perm zs).mem_iff.mp hz))
        · cases hg
  · rename_i ks ys
    obtain ⟨v, rfl, q0⟩ := q.one
    obtain ⟨p, vs, rfl, l, e1, q1⟩ := q0.dK
    have hz : (ks.zip vs).map (·.1) = ks := List.map_fst_zip (by rw [q1.len]; omega)
    cases hi : keyI ks with
    | some ns =>
      rw [hi] at hg
      dsimp only at hg
      split at hg
      · rename_i h64
        cases hg
        refine call_sortedDI hc pins s σ H _ us Q I r ⟨p, _, ns, rfl, Rd.mono gh e1, by rw [hz]; exact keyI_eq hi, h64, fun ms b hp hs hb => ?_⟩
        rw [sortI_uniq hp hs]
        exact k _ _ _ (Stp.own gh hb) (relO.ints gh hb (by rw [sortI_len]; exact sz_le (by omega)))
      · cases hg
    | none =>
      rw [hi] at hg
      dsimp only at hg
      cases hs : keyS ks with
      | none => rw [hs] at hg; cases hg
      | some zs =>
        rw [hs] at hg
        dsimp only at hg
        split at hg
        · rename_i h64
          cases hg
          refine call_sortedD hc pins s σ H _ us Q I r ⟨p, _, zs, rfl, Rd.mono gh e1, by rw [hz]; exact keyS_eq hs, h64.1, fun ms b hp hm hb => ?_⟩
          rw [sortS_uniq hp hm]
          refine k _ _ _ (Stp.own gh hb) (relO.strs gh hb (by rw [sortS_len]; exact sz_le (by omega)) fun z hz => ?_)
          have := List.all_eq_true.mp h64.2 z ((sortS_perm zs).mem_iff.mp hz)
          unfold okS at this
          rw [Bool.and_eq_true] at this
          exact ⟨sz_le (of_decide_eq_true this.1), this.2⟩
        · cases hg
  · cases hg
end
end FL
/-! The functional layer, part P: stores by subscript, dict displays, two stores at once, what stands in owned lists of lists. -/
namespace FL
open PySem PySem.Spec PyProof.Rows L2
section
variable {K : PySem.W.Frag} {mg : Str → Option Value} {B : Bs} {G H G' H' : Hp} {σ : L2.St} {ρ : En}
theorem Rep.dK {i : Nat} {ks : List Key} {ts : List OT} (r : Rep K mg B G H σ ρ) (e : ρ[i]? = some (some (.dK ks ts))) : ∃ a vs fs, σ[i]? = some (some (.ref a)) ∧ ks.length = ts.length ∧ H a = some (.dK (ks.zip vs)) ∧ ROs K mg G H ts vs fs ∧ (a :: fs).Nodup ∧
    ∀ o t' fp', RO K mg G (upd H a o) t' (.ref a) fp' → fp'.Nodup → (∀ p ∈ fp', p ∈ a :: fs) → Rep K mg B G (upd H a o) σ (ρ.set i (some t')) := by
  obtain ⟨F, f⟩ := r.sl
  obtain ⟨v, hv, hr⟩ := f.rep i _ e
  obtain ⟨a, vs, fs, rfl, e2, l, ha, ro⟩ := id hr
  refine ⟨a, vs, fs, hv, l, ha, ro, by rw [← e2]; exact f.nd i, fun o t' fp' h nd sub => put_core r.g r.len f e hv (by rw [e2]; exact List.mem_cons_self) h nd fun p hp => .inl (by rw [e2]; exact sub p hp)⟩
theorem Rep.dT {i : Nat} {ks : List (List Key)} {ts : List OT} (r : Rep K mg B G H σ ρ) (e : ρ[i]? = some (some (.dT ks ts))) : ∃ a vs fs, σ[i]? = some (some (.ref a)) ∧ ks.length = ts.length ∧ H a = some (.dT (ks.zip vs)) ∧ ROs K mg G H ts vs fs ∧ (a :: fs).Nodup ∧
    ∀ o t' fp', RO K mg G (upd H a o) t' (.ref a) fp' → fp'.Nodup → (∀ p ∈ fp', p ∈ a :: fs) → Rep K mg B G (upd H a o) σ (ρ.set i (some t')) := by
  obtain ⟨F, f⟩ := r.sl
  obtain ⟨v, hv, hr⟩ := f.rep i _ e
  obtain ⟨a, vs, fs, rfl, e2, l, ha, ro⟩ := id hr
  refine ⟨a, vs, fs, hv, l, ha, ro, by rw [← e2]; exact f.nd i, fun o t' fp' h nd sub => put_core r.g r.len f e hv (by rw [e2]; exact List.mem_cons_self) h nd fun p hp => .inl (by rw [e2]; exact sub p hp)⟩
theorem ROs.kput {κ : Type} [DecidableEq κ] {k : κ} {d : D} {v : V} (h : R K mg G d v) : ∀ {ks : List κ} {ts : List OT} {vs : List V} {fs : List Addr}, ks.length = ts.length → ROs K mg G H ts vs fs →
    (FL.kput ks ts k (.d d)).1 = (FL.kput ks vs k v).1 ∧ ∃ fs', ROs K mg G H (FL.kput ks ts k (.d d)).2 (FL.kput ks vs k v).2 fs' ∧ fs'.Sublist fs := by
  intro ks ts vs fs hl q
  unfold FL.kput
  have hz : ∀ (ks : List κ) {ts : List OT} {vs : List V} {fs : List Addr}, ROs K mg G H ts vs fs → ∃ fs', ROs K mg G H (List.zipWith (fun q y => if q = k then (.d d) else y) ks ts) (List.zipWith (fun q y => if q = k then v else y) ks vs) fs' ∧ fs'.Sublist fs := by
    intro ks
    induction ks with
    | nil => intro ts vs fs q; exact ⟨[], ⟨rfl, rfl⟩, List.nil_sublist _⟩
    | cons a ks ih =>
      intro ts vs fs q
      cases ts with
      | nil => obtain ⟨e1, e2⟩ := q; subst e1 e2; exact ⟨[], ⟨rfl, rfl⟩, List.nil_sublist _⟩
      | cons t ts =>
        obtain ⟨w, r, f1, f2, e, e2, h', q'⟩ := q
        subst e e2
        obtain ⟨fs', a1, a2⟩ := ih q'
        rw [List.zipWith_cons_cons, List.zipWith_cons_cons]
        by_cases hk : a = k
        · rw [if_pos hk, if_pos hk]
          exact ⟨fs', ⟨_, _, [], fs', rfl, rfl, RO.dd h, a1⟩, a2.trans (List.sublist_append_right _ _)⟩
        · rw [if_neg hk, if_neg hk]
          exact ⟨f1 ++ fs', ⟨_, _, f1, fs', rfl, rfl, h', a1⟩, List.Sublist.append (List.Sublist.refl _) a2⟩
  split
  · exact ⟨rfl, hz ks q⟩
  · have q2 := ROs.append q (ROs.one (RO.dd (H := H) h))
    rw [List.append_nil] at q2
    exact ⟨rfl, fs, q2, List.Sublist.refl _⟩
end
theorem PSet.or {X : Cx} {t1 t2 : V → V → V → Hp → (Hp → Prop) → Prop} (h1 : PSet X t1) (h2 : PSet X t2) : PSet X fun o i v H Q => t1 o i v H Q ∨ t2 o i v H Q := by
  intro pins s σ H o i v ov iv u Q I ro ri rv h
  exact h.elim (h1 pins s σ H o i v ov iv u Q I ro ri rv) (h2 pins s σ H o i v ov iv u Q I ro ri rv)
section
variable {X : Cx} {W : WW} {io : List Nat} {e ei ej a b : Expr} {f fi fj fa fb : En → Res D} {fo : En → Res OT} {fs : En → Res (List D)} {pos ppos pos' apos cpos : Pos} {x y : Str}
/-- x[i] = e, x an owned list or dict -/
def putS (s : Nat) (fi f : En → Res D) (ρ : En) : Flw := match ρ[s]? with
  | some (some (.lst ts)) => bindF (f ρ) ρ fun d => bindF (fi ρ) ρ fun k => match k with
    | .int k => match ixN ts.length k with
      | some j => .nx (ρ.set s (some (.lst (ts.set j (.d d)))))
      | none => .bad
    | _ => .bad
  | some (some (.dK ks ts)) => bindF (f ρ) ρ fun d => bindF (fi ρ) ρ fun k => match keyOf k with
    | some q => if ks.length < 16777216 then .nx (ρ.set s (some (.dK (kput ks ts q (.d d)).1 (kput ks ts q (.d d)).2))) else .bad
    | none => .bad
  | some (some (.dT ks ts)) => bindF (f ρ) ρ fun d => bindF (fi ρ) ρ fun k => match k with
    | .tup k => match keysOf k with
      | some q => if ks.length < 16777216 then .nx (ρ.set s (some (.dT (kput ks ts q (.d d)).1 (kput ks ts q (.d d)).2))) else .bad
      | none => .bad
    | _ => .bad
  | _ => .bad
theorem S1.put (s : Nat) (hu : X.A.units + 64 < cLine) (h : EF X W e f) (hi : EF X W ei fi) (hN : X.N[s]? = some x := by rfl) (hv : Vis X.env.scope x := by first | exact Or.inl rfl | exact Or.inr (Or.inl rfl) | exact Or.inr (Or.inr rfl)) (hd : (x == ("__debug__" : Str)) = false := by decide) (hcd : (x == ("__classdict__" : Str)) = false := by decide)
    (ha : ∀ v, assign (.Subscript (.Name x ppos) ei pos') X.env v = (do
      let ov ← holding [v] (eval (.Name x ppos) X.env)
      let iv ← holding [v, ov] (eval ei X.env)
      standAt pos'
      holding [v, ov, iv] (setItem ov iv v)
      release [v, ov, iv] []) := by intro _; rfl)
    (hs : swapsWithSole [.Subscript (.Name x ppos) ei pos'] e pos.line X.env = pure false := by rfl) (hw : swappedStores [.Subscript (.Name x ppos) ei pos'] e X.env = pure none := by rfl)
    (h1 : (assignEach [.Subscript (.Name x ppos) ei pos'] X.env).map (·.2) = [assign (.Subscript (.Name x ppos) ei pos') X.env] := by rfl) :
    S1 X W io (.Assign [.Subscript (.Name x ppos) ei pos'] e pos) (putS s fi f) := ⟨fun B hB =>
  PS.mono (ps_asg (h.run B) (pg_sub (pe_var (i := s) hN hv hd hcd) (hi.run B) (PSet.or set_list (set_dict (by omega))) ha) hs hw h1) fun N σ H ⟨G, ρ, r, h⟩ => by
    unfold putS at h
    split at h
    · rename_i ts es
      refine lift.of r h fun d y G1 H1 r1 s1 q1 o => ?_
      obtain ⟨a, vs, fs, hv, l, hH, ro, nd, back⟩ := r1.lst es
      refine ⟨.ref a, hv, lift.of r1 o fun k z G2 H2 r2 s2 q2 o2 => ?_⟩
      obtain ⟨a', vs', fs', hv', l', ha', ro', nd', back'⟩ := r2.lst es
      rw [hv] at hv'
      cases hv'
      split at o2
      · rename_i k
        split at o2
        · rename_i j hj
          have hjl : j < ts.length := (ixN_seq hj).2.1
          obtain ⟨w, f1, g, f2, hw, ef, rj, bk⟩ := ro'.at (List.getElem?_eq_getElem hjl)
          cases q2
          refine .inl ⟨a, vs', k, j, rfl, rfl, ha', by rw [ro'.len]; exact hj, o2 _ _ _ (back' _ _ (a :: (f1 ++ ([] ++ f2))) ?_ ?_ fun p hp => ?_)⟩
          · refine ⟨a, _, _, rfl, rfl, by rw [List.length_set]; exact l', upd_same, bk G2 _ (.d d) y [] (Same.refl _) (fun p hp => upd_ne fun z => ?_) (RO.dd (R.mono s2.gg q1))⟩
            refine (List.nodup_cons.mp nd').1 ?_
            rw [ef, ← z]
            rcases hp with hp | hp
            · exact List.mem_append_left _ hp
            · exact List.mem_append_right _ (List.mem_append_right _ hp)
          · rw [ef] at nd'
            refine nd'.sublist (List.Sublist.cons_cons _ ?_)
            exact List.Sublist.append (List.Sublist.refl _) (List.sublist_append_right _ _)
          · rw [ef]
            rcases List.mem_cons.mp hp with rfl | hp
            · exact List.mem_cons_self
            · refine List.mem_cons_of_mem _ ?_
              rcases List.mem_append.mp hp with hp | hp
              · exact List.mem_append_left _ hp
              · exact List.mem_append_right _ (List.mem_append_right _ hp)
        · exact o2.elim
      · exact o2.elim
    · rename_i ks ts es
      refine lift.of r h fun d y G1 H1 r1 s1 q1 o => ?_
      obtain ⟨a, vs, fs, hv, l, hH, ro, nd, back⟩ := r1.dK es
      refine ⟨.ref a, hv, lift.of r1 o fun k z G2 H2 r2 s2 q2 o2 => ?_⟩
      obtain ⟨a', vs', fs', hv', l', ha', ro', nd', back'⟩ := r2.dK es
      rw [hv] at hv'
      cases hv'
      split at o2
      · rename_i q hq
        split at o2
        · rename_i hl
          have hlv : ks.length = vs'.length := by rw [ro'.len]; exact l'
          have q2' : R X.K X.mg G2 k z := q2
          refine .inr ⟨a, _, rfl, by rw [keyOf_ok q2' hq]; exact DPut.k ha' (by rw [List.length_zip, ← hlv, Nat.min_self]; exact sz_lt hl), o2 _ G2 _ ?_⟩
          rw [kput_zip q y hlv]
          obtain ⟨k1, fn, k2, k3⟩ := ROs.kput (k := q) (R.mono s2.gg q1) l' (ro'.frame (Same.refl _) (H' := upd H2 a (.dK ((kput ks vs' q y).1.zip (kput ks vs' q y).2))) fun p hp => upd_ne fun z => (List.nodup_cons.mp nd').1 (z ▸ hp))
          refine back' _ _ (a :: fn) ⟨a, _, fn, rfl, rfl, kput_len l', by rw [k1]; exact upd_same, k2⟩ (nd'.sublist (List.Sublist.cons_cons _ k3)) fun p hp => ?_
          rcases List.mem_cons.mp hp with rfl | hp
          · exact List.mem_cons_self
          · exact List.mem_cons_of_mem _ (k3.subset hp)
        · exact o2.elim
      · exact o2.elim
    · rename_i ks ts es
      refine lift.of r h fun d y G1 H1 r1 s1 q1 o => ?_
      obtain ⟨a, vs, fs, hv, l, hH, ro, nd, back⟩ := r1.dT es
      refine ⟨.ref a, hv, lift.of r1 o fun k z G2 H2 r2 s2 q2 o2 => ?_⟩
      obtain ⟨a', vs', fs', hv', l', ha', ro', nd', back'⟩ := r2.dT es
      rw [hv] at hv'
      cases hv'
      split at o2
      · rename_i k
        split at o2
        · rename_i q hq
          split at o2
          · rename_i hl
            have hlv : ks.length = vs'.length := by rw [ro'.len]; exact l'
            obtain ⟨b, us, rfl, _, eb, qb⟩ := R.tup q2
            refine .inr ⟨a, _, rfl, DPut.t (k := q) ha' (by rw [← keysOf_ok qb hq]; exact r2.gh _ _ eb) (by rw [List.length_zip, ← hlv, Nat.min_self]; exact sz_lt hl), o2 _ G2 _ ?_⟩
            rw [kput_zip q y hlv]
            obtain ⟨k1, fn, k2, k3⟩ := ROs.kput (k := q) (R.mono s2.gg q1) l' (ro'.frame (Same.refl _) (H' := upd H2 a (.dT ((kput ks vs' q y).1.zip (kput ks vs' q y).2))) fun p hp => upd_ne fun z => (List.nodup_cons.mp nd').1 (z ▸ hp))
            refine back' _ _ (a :: fn) ⟨a, _, fn, rfl, rfl, kput_len l', by rw [k1]; exact upd_same, k2⟩ (nd'.sublist (List.Sublist.cons_cons _ k3)) fun p hp => ?_
            rcases List.mem_cons.mp hp with rfl | hp
            · exact List.mem_cons_self
            · exact List.mem_cons_of_mem _ (k3.subset hp)
          · exact o2.elim
        · exact o2.elim
      · exact o2.elim
    · exact h.elim⟩
/-! dict displays, keys ints or texts -/
structure EPs (X : Cx) (W : WW) (pos : Pos) (ks : List (Option Expr)) (vs : List Expr) (f : En → Res (List D × List D)) : Prop where
  run : ∀ B, ∃ trs, PPs X pos ks vs trs ∧ ∀ σ H Q, lift X W (fun H1 G' H' (a : List D × List D) (b : List (V × V)) => Rs X.K X.mg G' a.1 (b.map (·.1)) ∧ Rs X.K X.mg G' a.2 (b.map (·.2))) B f σ H (fun b H' => Q b H') → tPairs trs σ H Q
def nilP (_ : En) : Res (List D × List D) := .ok ([], [])
def consP (fk fv : En → Res D) (fr : En → Res (List D × List D)) (ρ : En) : Res (List D × List D) := (fk ρ).bind fun k => (fv ρ).bind fun v => (fr ρ).bind fun r => .ok (k :: r.1, v :: r.2)
theorem EPs.nil : EPs X W pos [] [] nilP := ⟨fun B => ⟨[], pps_nil, fun σ H Q ⟨G, ρ, r, h⟩ => by
  exact Wr.ok (k := fun _ v _ H' => Q v H') h (Stp.refl r.gh) ⟨rfl, rfl⟩⟩⟩
theorem EPs.cons {ks : List (Option Expr)} {vs : List Expr} {fr : En → Res (List D × List D)} (hk : EF X W a fa) (hv : EF X W b fb) (hr : EPs X W pos ks vs fr) : EPs X W pos (some a :: ks) (b :: vs) (consP fa fb fr) := ⟨fun B => by
  obtain ⟨trs, h1, h2⟩ := hr.run B
  refine ⟨_, pps_cons (hk.run B) (hv.run B) h1, fun σ H Q ⟨G, ρ, r, h⟩ => ?_⟩
  have lt : Later (fun (H1 G' H' : Hp) (a : List D × List D) (b : List (V × V)) => Rs X.K X.mg G' a.1 (b.map (·.1)) ∧ Rs X.K X.mg G' a.2 (b.map (·.2))) := fun _ _ _ _ _ _ _ h => h
  refine lift.next (rel := relD X.K X.mg) (g := fun k ρ => (fb ρ).bind fun v => (fr ρ).bind fun r => .ok (k :: r.1, v :: r.2)) lt r h fun k x G1 H1 r1 s1 q1 w1 => ?_
  refine lift.next (rel := relD X.K X.mg) (g := fun v ρ => (fr ρ).bind fun r => .ok (k :: r.1, v :: r.2)) lt r1 w1 fun v y G2 H2 r2 s2 q2 w2 => ?_
  refine h2 σ H2 _ (lift.next (g := fun r _ => .ok (k :: r.1, v :: r.2)) lt r2 w2 fun l ps G3 H3 r3 s3 q3 w3 => ?_)
  exact Wr.ok (k := fun _ v _ H' => Q v H') w3 (Stp.refl r3.gh) ⟨⟨x, _, rfl, R.mono (s2.gg.trans s3.gg) q1, q3.1⟩, y, _, rfl, R.mono s3.gg q2, q3.2⟩⟩
def putAll {α : Type} : List Key → List α → List Key → List α → List Key × List α
  | k :: ks, x :: xs, ls, ys => putAll ks xs (kput ls ys k x).1 (kput ls ys k x).2
  | _, _, ls, ys => (ls, ys)
def dispO (p : List D × List D) : Option OT := (keysOf p.1).bind fun ks => if ks.length ≤ 15 then some (.dK (putAll ks p.2 [] []).1 ((putAll ks p.2 [] []).2.map .d)) else none
def disp (f : En → Res (List D × List D)) (ρ : En) : Res OT := (f ρ).bind fun p => FL.ofO (dispO p)
theorem putAll_ok {K : PySem.W.Frag} {mg : Str → Option Value} {G : Hp} : ∀ {ks : List Key} {ds : List D} {vs : List V} {ls : List Key} {es : List D} {us : List V}, Rs K mg G ds vs → Rs K mg G es us → ls.length = es.length → ks.length = ds.length →
    mergeK (ls.zip us) (ks.zip vs) = (putAll ks ds ls es).1.zip (putAll ks vs ls us).2 ∧ Rs K mg G (putAll ks ds ls es).2 (putAll ks vs ls us).2 ∧ (putAll ks ds ls es).1.length = (putAll ks ds ls es).2.length
  | [], ds, vs, ls, es, us, h, q, hl, hk => by
    cases ds with
    | nil => cases (show vs = [] from h); exact ⟨rfl, q, hl⟩
    | cons _ _ => cases hk
  | k :: ks, [], _, _, _, _, _, _, _, hk => by cases hk
  | k :: ks, d :: ds, _, ls, es, us, ⟨v, r, e, h, t⟩, q, hl, hk => by
    subst e
    have hq := Rs.kput (k := k) h (ks := ls) q
    obtain ⟨i1, i2, i3⟩ := putAll_ok (ks := ks) t hq.2 (kput_len hl) (by simpa using hk)
    refine ⟨?_, ?_, i3⟩
    · show mergeK (putK (ls.zip us) k v) (ks.zip r) = _
      rw [kput_zip k v (by rw [hl, q.len]), ← hq.1]
      rw [i1]
      show _ = (putAll ks ds (FL.kput ls es k d).1 (FL.kput ls es k d).2).1.zip (putAll ks r (FL.kput ls us k v).1 (FL.kput ls us k v).2).2
      rw [hq.1]
    · show Rs K mg G (putAll ks ds (FL.kput ls es k d).1 (FL.kput ls es k d).2).2 (putAll ks r (FL.kput ls us k v).1 (FL.kput ls us k v).2).2
      rw [← hq.1]
      exact i2
theorem pairs_eq : ∀ {ps : List (V × V)} {kk : List Key}, ps.map (·.1) = kk.map kV → ps = (kk.zip (ps.map (·.2))).map (fun kv => (kV kv.1, kv.2))
  | [], [], _ => rfl
  | [], _ :: _, h => by cases h
  | _ :: _, [], h => by cases h
  | p :: ps, k :: kk, h => by
    rw [List.map_cons, List.map_cons] at h
    injection h with h1 h2
    rw [List.map_cons, List.zip_cons_cons, List.map_cons, ← pairs_eq h2, ← h1]
theorem EO.disp {ks : List (Option Expr)} {vs : List Expr} {fr : En → Res (List D × List D)} (h : EPs X W pos ks vs fr) (hall : ks.all (·.isSome) = true := by rfl) (hl : ks.length = vs.length := by rfl) (h0 : ks ≠ [] := by exact List.cons_ne_nil _ _) (h15 : ks.length ≤ 15 := by decide) : EO X W (.Dict ks vs pos) (FL.disp fr) := ⟨fun B => by
  obtain ⟨trs, h1, h2⟩ := h.run B
  refine PE.mono (pe_disp h1 hall hl h0 h15) fun σ H Q ⟨G, ρ, r, h⟩ p hp => ?_
  have so := Stp.own (o := .dK []) r.gh hp
  have r' := r.step so
  have hG : G p = none := r.gh.free hp
  refine h2 σ _ _ ⟨G, ρ, r', ?_⟩
  unfold FL.disp at h
  cases e : fr ρ with
  | bad => rw [e] at h; exact h
  | ex c => rw [e] at h; exact ⟨h.1, fun G' H' cls dd s q => h.2 G' H' cls dd (so.trans s) q⟩
  | ok l =>
    rw [e] at h
    intro ps G' H' s ⟨q1, q2⟩
    have hp' : H' p = some (.dK []) := s.hh _ _ upd_same
    have gp : G' p = none := (s.old p (by rw [upd_same]; exact fun z => nomatch z)).trans hG
    refine ⟨hp', ?_⟩
    change Wr X.K X.mg (relO X.K X.mg) W σ G H (FL.ofO (dispO l)) _ at h
    unfold dispO at h
    cases ek : keysOf l.1 with
    | none => rw [ek] at h; exact h.elim
    | some kk =>
      rw [ek, Option.bind_some] at h
      by_cases h15' : kk.length ≤ 15
      · rw [if_pos h15'] at h
        have ekk := keysOf_ok q1 ek
        have hlen : kk.length = (ps.map (·.2)).length := by
          have z := congrArg List.length ekk
          rw [List.length_map, List.length_map] at z
          rw [List.length_map]; exact z.symm
        refine ⟨kk.zip (ps.map (·.2)), pairs_eq ekk, by rw [List.length_zip]; omega, ?_⟩
        have hk : kk.length = l.2.length := by rw [hlen, q2.len]
        obtain ⟨i1, i2, i3⟩ := putAll_ok (ks := kk) q2 (Rs.nil (K := X.K) (mg := X.mg) (G := G')) (ls := []) rfl hk
        have i1' : mergeK [] (kk.zip (ps.map (·.2))) = _ := i1
        rw [i1']
        have st : Stp G H G' (upd H' p (.dK ((putAll kk l.2 [] []).1.zip (putAll kk (ps.map (·.2)) [] []).2))) := by
          have s2 := so.trans s
          refine ⟨fun q o e => ?_, s2.gg, fun q o e => ?_, s2.old⟩
          · rw [upd_ne (fun z => by rw [z, hp] at e; cases e)]; exact s2.hh q o e
          · rw [upd_ne (fun z => by rw [z, gp] at e; cases e)]; exact s2.gh q o e
        refine Wr.ok (rel := relO X.K X.mg) (k := fun _ v _ H' => Q v H') h st ⟨[p], ⟨p, _, [], rfl, rfl, by rw [List.length_map]; exact i3, upd_same, ROs.dds i2⟩, by simp, fun q hq => ?_⟩
        rw [List.mem_singleton.mp hq]; exact ⟨hp, gp⟩
      · rw [if_neg h15'] at h; exact h.elim⟩
/-! x[i][j], x an owned list of owned lists -/
def oix2 (s : Nat) (fi fj : En → Res D) (ρ : En) : Res D := match ρ[s]? with
  | some (some (.lst ts)) => (fi ρ).bind fun k => match k with
    | .int k => match L2.atI ts k with
      | some (.lst us) => (fj ρ).bind fun m => match m with
        | .int m => match L2.atI us m with
          | some (.d x) => .ok x
          | _ => .bad
        | _ => .bad
      | _ => .bad
    | _ => .bad
  | _ => .bad
theorem L2at {α : Type} {xs : List α} {k : Int} {x : α} (h : L2.atI xs k = some x) : ∃ j, ixN xs.length k = some j ∧ xs[j]? = some x := by
  unfold L2.atI at h
  cases e : ixN xs.length k with
  | none => rw [e] at h; cases h
  | some j => rw [e] at h; exact ⟨j, rfl, by simpa using h⟩
theorem EF.oix2 (s : Nat) (hi : EF X W a fi) (hj : EF X W b fj) (hN : X.N[s]? = some x := by rfl) (hv : Vis X.env.scope x := by first | exact Or.inl rfl | exact Or.inr (Or.inl rfl) | exact Or.inr (Or.inr rfl)) (hd : (x == ("__debug__" : Str)) = false := by decide) (hcd : (x == ("__classdict__" : Str)) = false := by decide)
    (hs : PlainIx a := by intro _ _; rfl) (hs2 : PlainIx b := by intro _ _; rfl) : EF X W (.Subscript (.Subscript (.Name x ppos) a pos') b pos) (FL.oix2 s fi fj) := ⟨fun B => PE.mono (pe_ix ix_list (pe_ix ix_list (pe_var (i := s) hN hv hd hcd) (hi.run B) hs) (hj.run B) hs2) fun σ H Q ⟨G, ρ, r, h⟩ => by
  unfold FL.oix2 at h
  split at h
  · rename_i ts es
    obtain ⟨a0, vs, fs, hv, l, ha, ro, nd, _⟩ := r.lst es
    refine ⟨.ref a0, hv, lift.next (rel := relD X.K X.mg) (g := fun k ρ => match k with
      | .int k => match L2.atI ts k with
        | some (.lst us) => (fj ρ).bind fun m => match m with
          | .int m => match L2.atI us m with
            | some (.d x) => .ok x
            | _ => .bad
          | _ => .bad
        | _ => .bad
      | _ => .bad) later_D r h fun d y G1 H1 r1 s1 q1 w1 => ?_⟩
    (try dsimp only at w1)
    cases d <;> first | exact w1.elim | skip
    rename_i k
    (try dsimp only at w1)
    cases ek : L2.atI ts k with
    | none => rw [ek] at w1; exact w1.elim
    | some u =>
      rw [ek] at w1
      cases u <;> first | exact w1.elim | skip
      rename_i us
      cases q1
      obtain ⟨j, hj1, hj2⟩ := L2at ek
      obtain ⟨a1, vs1, b1, ws1, gs1, x1, x2, x3, x4, x5, x6, x7, _⟩ := r1.lst2 es hj2
      rw [hv] at x1
      cases x1
      refine ⟨a0, vs1, k, .ref b1, rfl, rfl, SqL.of x2, by unfold L2.atI; rw [x3, hj1]; exact x4, ?_⟩
      refine lift.next (rel := relD X.K X.mg) (g := fun m _ => match m with
          | .int m => match L2.atI us m with
            | some (.d x) => .ok x
            | _ => .bad
          | _ => .bad) later_D r1 w1 fun d y G2 H2 r2 s2 q2 w2 => ?_
      (try dsimp only at w2)
      cases d <;> first | exact w2.elim | skip
      rename_i m
      (try dsimp only at w2)
      cases em : L2.atI us m with
      | none => rw [em] at w2; exact w2.elim
      | some u2 =>
        rw [em] at w2
        cases u2 <;> first | exact w2.elim | skip
        rename_i z
        cases q2
        obtain ⟨j2, hm1, hm2⟩ := L2at em
        obtain ⟨v, f1, fj, f2, ev, _, rj, _⟩ := x7.at hm2
        unfold RO at rj
        exact ⟨b1, ws1, m, v, rfl, rfl, SqL.of (s2.hh _ _ x6), by unfold L2.atI; rw [x7.len, hm1]; exact ev, Wr.ok (rel := relD X.K X.mg) (k := fun _ v _ H' => Q v H') w2 (Stp.refl r2.gh) (R.mono s2.gg rj.2)⟩
  · exact h.elim⟩
end
end FL
/-! The functional layer, part Q: the end of a law. -/
namespace FL
open PySem PySem.Spec PyProof.Rows L2
section
variable {K : PySem.W.Frag} {mg : Str → Option Value} {h : Heap}
theorem fun_ofD {x qual : Str} {st : Stmt} {f : Addr} {fd : FuncData} (F : FunD K x qual (defArgs st) (defBody st) (defScope st) [] [] f fd) : Fun K x qual st f fd := by
  obtain ⟨oc, od, dV, kV, doc, pm, an, cdv, ct, osl, e, lk, hc, hD, _⟩ := F.ex
  rcases hD with ⟨_, rfl⟩ | ⟨z, _⟩
  · exact ⟨⟨oc, od, kV, doc, pm, an, cdv, ct, osl, e, lk, hc⟩, F.kp⟩
  · exact absurd rfl z
theorem Dn.ofD {x : Str} {st : Stmt} {ps : List Str} {fd : FuncData} (X : K.In h) (G : h.Ns mainGlobals mg) (F : FunD K x x (defArgs st) (defBody st) (defScope st) [] [] (He.ga K x) fd) (c : (He.Fa.glo x).ok K = true)
    (b : ∀ (kV doc pm : Value) (an : Option Addr) (cdv ct : Value) (us : List Value), us.length = ps.length → bindArgs (PySem.W.fnOf x x (defArgs st) (defBody st) (defScope st) .none kV doc pm an cdv ct) ⟨us, []⟩ = pure (ps.zip us)) : Dn K mg x st ps :=
  ⟨He.ga K x, fd, fun_ofD F, He.glo_ok X G c, F.kp, F.bindsN b⟩
/-- a def of the text for the head -/
def dD (x : Str) (st : Stmt) : He.DefD := ⟨(x, none), x, x, defArgs st, defBody st, defScope st, [], []⟩
end
/-- the law from its def's promise -/
theorem cal_fn {P : Program} {w : World} {K : PySem.W.Frag} {mg : Str → Option Value} {base : Heap} {k : Nat} {x : Str} {F : List D → Res OT} (c : Cal P w K mg base CX0 False x k F) (hF : ∀ ns : List Int, ns.length ≤ 63 → F [.scr ns] = .ok (.d (.bl true))) {fa : Addr} {fd : FuncData}
    (hm : mg x = some (.ref fa)) (u : ∀ f fd' ps, mg x = some (.ref f) → FnOk P w K mg base CX0 k f fd' ps (spP K mg False F) → FnOk P w K mg base CX0 k fa fd [("script" : Str)] (spP K mg False F)) : FnOk P w K mg base CX0 k fa fd [("script" : Str)] (spLaw K) := by
  obtain ⟨f, fd', ps, hf, h2, _⟩ := c.ex
  exact law_fn (u f fd' ps h2 hf) hF
end FL
/-! The functional layer, part R: a list the other way round. -/
namespace FL
open PySem PySem.Spec PyProof.Rows L2
section
variable {X : Cx} {W : WW} {a b e : Expr} {es : List Expr} {f fa fb fi : En → Res D} {fs : En → Res (List D)} {p p1 p2 p3 pos : Pos}
def revD : D → Option D
  | .lst ds => some (.lst ds.reverse)
  | _ => none
theorem Rs.rev {K : PySem.W.Frag} {mg : Str → Option Value} {G : Hp} : ∀ {ds : List D} {vs : List V}, Rs K mg G ds vs → Rs K mg G ds.reverse vs.reverse
  | [], _, h => by rw [h]; exact Rs.nil
  | _ :: _, _, ⟨v, r, e, h, t⟩ => by
    rw [e, List.reverse_cons, List.reverse_cons]
    exact Rs.append (Rs.rev t) (Rs.cons h Rs.nil)
theorem EF.rev {k : Nat} (ha : EF X W a fa) : EF X W (.Subscript a (.Slice none none (some (.UnaryOp .USub (.Constant (.int 1) k p1) p2)) p3) pos) (op1 revD fa) := ⟨fun B => PE.mono (pe_revL (ha.run B)) fun σ H Q ⟨G, ρ, r, h⟩ =>
  lift.next (rel := relD X.K X.mg) (g := fun x _ => FL.ofO (revD x)) later_D r h fun d x G1 H1 r1 s1 q1 w1 => by
    cases d <;> first | exact w1.elim | skip
    obtain ⟨p, vs, rfl, l, e1, q2⟩ := q1.lst
    exact ⟨p, vs, rfl, SqL.of (r1.gh _ _ e1), fun q hq => Wr.ok (rel := relD X.K X.mg) (k := fun _ v _ H' => Q v H') w1 (Stp.new r1.gh hq) (R.newL (r1.gh.free hq) (by rw [List.length_reverse]; exact l) q2.rev)⟩⟩
end
end FL
/-! The functional layer, part S: raise; try with several clauses, each with a name or without; isinstance of what was caught. -/
namespace FL
open PySem PySem.Spec PyProof.Rows L2
/-- an own class that may be raised with a text -/
structure Rz (K : PySem.W.Frag) (mg : Str → Option Value) (c : Str) : Prop where
  ex : ∃ C, mg c = some (.ref C) ∧ PySem.W.excIn K C He.veBase "ValueError.__new__" = true ∧ PySem.W.keepIn K (.ref C) = true ∧ PySem.W.subIn K (.ref C) (.type "BaseException") = some true ∧ PySem.W.typeIn K (.ref C) = some (.type "type")
/-- the own classes T, and which is under which -/
structure ExK (K : PySem.W.Frag) (mg : Str → Option Value) (T : List Str) (sub : Str → Str → Bool) : Prop where
  cls : ∀ c ∈ T, ∃ C, mg c = some (.ref C)
  exc : ∀ c ∈ T, ∀ C, mg c = some (.ref C) → L2.ExcC K C
  exm : ∀ c ∈ T, ∀ d ∈ T, ∀ C E, mg c = some (.ref C) → mg d = some (.ref E) → PySem.W.exmOne K (.ref C) (.ref E) = some (sub c d) ∧ PySem.W.kitOne K (.ref C) (.ref E) = some (sub c d)
  ve : ∀ c ∈ T, ∀ C, mg c = some (.ref C) → PySem.W.kitOne K (.ref C) (.type "ValueError") = some true
/-! ### isinstance(e, c), e caught -/
def isX (a : Addr) (b : Bool) : D → Option D
  | .exn a' => if a' = a then some (.bl b) else none
  | _ => none
theorem isX_self (a : Addr) (b : Bool) : isX a b (.exn a) = some (.bl b) := if_pos rfl
theorem call_isP {X : Cx} {a C : Addr} {oe : Obj} (hp : (a, oe) ∈ X.pn) (E : L2.ExcC X.K C) (hz : Zc (.ref C) none oe) (hf : ∃ vs, oe.data = .fields vs) : CallR X (.builtin "isinstance") (rIsE X.K C a) := by
  rintro pins s σ H xs us Q I r ⟨c, cv, b, rfl, hcv, e, q⟩
  cases r with
  | cons rx rr =>
    cases rr with
    | cons rt rr =>
      cases rr
      cases rx
      cases hcv _ rt
      obtain ⟨got, _⟩ := I.pin (a, oe) (List.mem_append_left _ hp)
      have J : PySem.W.InstAt s.heap a oe C none := by
        obtain ⟨oc, od, oda, osl⟩ := oe
        obtain ⟨vs, hv⟩ := hf
        obtain ⟨h1, h2⟩ := hz
        dsimp only at h1 h2 hv
        subst h1 h2 hv
        exact ⟨got, rfl, rfl, trivial⟩
      exact PySem.W.kia_one (PySem.W.handS_kitx_exc E.hg E.hk E.hs E.hd E.ha E.hn E.ht E.hm) I.kIn J e (fun z => nomatch z) fun tk => ⟨.bl b, H, I.kept (t' := tk) fun _ _ z => z, rfl, q⟩
/-- what a suite knows of its exception -/
structure Cau (X : Cx) (a : Addr) (c : Str) : Prop where
  ex : ∃ oe C, (a, oe) ∈ X.pn ∧ X.mg c = some (.ref C) ∧ L2N.Zn (.ref C) none oe ∧ ∃ vs, oe.data = .fields vs
section
variable {X : Cx} {W : WW} {io : List Nat} {e : Expr} {f : En → Res D} {T : List Str} {sub : Str → Str → Bool} {p p2 pos : Pos}
theorem EF.isX {a : Addr} {c d : Str} (cau : Cau X a c) (hc : c ∈ T) (k : ExK X.K X.mg T sub) (hm : X.mg "isinstance" = none) (ha : EF X W e f) (hd : d ∈ T := by decide) (hg : Gl X "isinstance" := by rfl) (hg2 : Gl X d := by rfl) (hdb : (d == ("__debug__" : Str)) = false := by decide)
    (hs : starEach [e, .Name d p2] X.env = (false, eval e X.env) :: starEach [.Name d p2] X.env := by rfl) (hs2 : starEach [.Name d p2] X.env = (false, eval (.Name d p2) X.env) :: starEach [] X.env := by rfl) (hpl : (backTo pos (starEach [.Name d p2] X.env)).any (·.1) = false := by rfl) :
    EF X W (.Call (.Name "isinstance" p) [e, .Name d p2] [] pos) (op1 (FL.isX a (sub c d)) f) := ⟨fun B => by
  obtain ⟨oe, C, h1, h2, h3, h4⟩ := cau.ex
  obtain ⟨E, hE⟩ := k.cls d hd
  have ek := (k.exm c hc d hd C E h2 hE).2
  exact PE.mono (pe_callB (call_isP h1 (k.exc c hc C h2) h3.zc h4) hg hm (by decide +kernel) (pa_cons (ha.run B) (pa_cons (pe_glob (v := .ref E) hg2 hE rfl hdb) pa_nil hs2) hs) (by decide) (by decide) hs hpl) fun σ H Q ⟨G, ρ, r, h⟩ =>
    lift.next (rel := relD X.K X.mg) (g := fun x _ => FL.ofO (FL.isX a (sub c d) x)) later_D r h fun z x G1 H1 r1 s1 q1 w1 => by
      cases z <;> first | exact w1.elim | skip
      rename_i a'
      cases (show x = .ref a' from q1)
      unfold FL.isX at w1
      dsimp only at w1
      by_cases ea : a' = a
      · subst ea
        rw [if_pos rfl] at w1
        exact ⟨.ref E, .ref E, _, rfl, fun u h => by cases h; rfl, ek, w1.ok (Stp.refl r1.gh) rfl⟩
      · rw [if_neg ea] at w1; exact w1.elim⟩
theorem EF.isXv {a : Addr} {c : Str} (cau : Cau X a c) (hc : c ∈ T) (k : ExK X.K X.mg T sub) (hm : X.mg "isinstance" = none) (hmv : X.mg "ValueError" = none) (ha : EF X W e f) (hg : Gl X "isinstance" := by rfl) (hg2 : Gl X "ValueError" := by rfl)
    (hs : starEach [e, .Name "ValueError" p2] X.env = (false, eval e X.env) :: starEach [.Name "ValueError" p2] X.env := by rfl) (hs2 : starEach [.Name "ValueError" p2] X.env = (false, eval (.Name "ValueError" p2) X.env) :: starEach [] X.env := by rfl) (hpl : (backTo pos (starEach [.Name "ValueError" p2] X.env)).any (·.1) = false := by rfl) :
    EF X W (.Call (.Name "isinstance" p) [e, .Name "ValueError" p2] [] pos) (op1 (FL.isX a true) f) := ⟨fun B => by
  obtain ⟨oe, C, h1, h2, h3, h4⟩ := cau.ex
  have ek := k.ve c hc C h2
  exact PE.mono (pe_callB (call_isP h1 (k.exc c hc C h2) h3.zc h4) hg hm (by decide +kernel) (pa_cons (ha.run B) (pa_cons (pe_bltn (v := .ty "ValueError") hg2 hmv (by decide +kernel) rfl (by decide) (by decide)) pa_nil hs2) hs) (by decide) (by decide) hs hpl) fun σ H Q ⟨G, ρ, r, h⟩ =>
    lift.next (rel := relD X.K X.mg) (g := fun x _ => FL.ofO (FL.isX a true x)) later_D r h fun z x G1 H1 r1 s1 q1 w1 => by
      cases z <;> first | exact w1.elim | skip
      rename_i a'
      cases (show x = .ref a' from q1)
      unfold FL.isX at w1
      dsimp only at w1
      by_cases ea : a' = a
      · subst ea
        rw [if_pos rfl] at w1
        exact ⟨.ty "ValueError", .type "ValueError", _, rfl, fun u h => by cases h; rfl, ek, w1.ok (Stp.refl r1.gh) rfl⟩
      · rw [if_neg ea] at w1; exact w1.elim⟩
/-! ### raise c('m') -/
theorem S1.raise {c m : Str} {j : Nat} {pos' : Pos} (hc : X.calm = true) (tk : L2N.Takes X W.w) (F : Rz X.K X.mg c) (hg : Gl X c := by rfl) (hdb : (c == ("__debug__" : Str)) = false := by decide) :
    S1 X W io (.Raise (some (.Call (.Name c p) [.Constant (.str m) j p2] [] pos)) none pos') (raF c) := ⟨fun B hB => by
  obtain ⟨C, gC, q, kC, s1, s2⟩ := F.ex
  exact PS.mono (L2N.ps_raise hc tk (L2N.pmk_own PySem.F.excBase_ValueError q gC kC (raises_own s1 s2) hg hdb)) fun N σ H ⟨G, ρ, r, h⟩ => h.2 σ G H _ _ r ⟨gC, rfl⟩⟩
end
/-! ### try -/
/-- a suite's ends, the clause's name gone -/
def gone : Option Nat → Ends → Ends
  | none, N => N
  | some i, N => { nx := fun σ H => N.nx (σ.set i none) H, rt := N.rt, bk := fun σ H => N.bk (σ.set i none) H, ct := fun σ H => N.ct (σ.set i none) H }
def held : Option Nat → Addr → L2.St → L2.St
  | none, _, σ => σ
  | some i, a, σ => σ.set i (some (.ref a))
abbrev Suit : Type := Addr → Value → Option Addr → TS
/-- what the clauses wish -/
def wCl (K : PySem.W.Frag) (Wout : WX) (N : Ends) : List (Value × Option Nat × Suit) → WX
  | [] => Wout
  | (c, n, ts) :: l => fun cls d σ H => ∃ b, PySem.W.exmOne K cls c = some b ∧ (b = true → ∀ a, H a = none → ts a cls d (gone n N) (held n a σ) H) ∧ (b = false → wCl K Wout N l cls d σ H)
/-- the clauses and what their suites do -/
inductive Hds (X : Cx) : List ExceptHandler → List (Value × Option Nat × Suit) → Prop
  | nil : Hds X [] []
  | one {x : Str} {c : Value} {ts : Suit} {b₀ : Stmt} {suite : List Stmt} {np pos' : Pos} {hds : List ExceptHandler} {l : List (Value × Option Nat × Suit)} (hc : Names X x c)
      (hsu : ∀ (a : Addr) (oe : Obj) (cls : Value) (d : Option Addr) (pn : List (Addr × Obj)), L2N.Zn cls d oe → (∃ vs, oe.data = .fields vs) → PSs (X.suite a ((a, oe) :: pn)) (b₀ :: suite) (ts a cls d)) (r : Hds X hds l) :
      Hds X (.ExceptHandler (some (.Name x np)) none (b₀ :: suite) pos' :: hds) ((c, none, ts) :: l)
  | as {x n : Str} {i : Nat} {c : Value} {ts : Suit} {b₀ : Stmt} {suite : List Stmt} {np pos' : Pos} {hds : List ExceptHandler} {l : List (Value × Option Nat × Suit)} (hN : X.N.Nodup) (hi : X.N[i]? = some n) (hln : X.env.kindOf n = some .local) (hc : Names X x c)
      (hsu : ∀ (a : Addr) (oe : Obj) (cls : Value) (d : Option Addr) (pn : List (Addr × Obj)), L2N.Zn cls d oe → (∃ vs, oe.data = .fields vs) → PSs (X.suite a ((a, oe) :: pn)) (b₀ :: suite) (ts a cls d)) (r : Hds X hds l) :
      Hds X (.ExceptHandler (some (.Name x np)) (some n) (b₀ :: suite) pos' :: hds) ((c, some i, ts) :: l)
section
variable {X : Cx} {pins : List (Addr × Obj)} {σ : L2.St} {H : Hp} {N : Ends} {Wout : WX} {a : Addr} {B : Heap} {cls : Value} {d : Option Addr} {sI s' : Shared} {h3 : Heap}
/-- the state in which the clauses are looked at -/
structure Lndd (X : Cx) (pins : List (Addr × Obj)) (σ : L2.St) (H : Hp) (a : Addr) (B : Heap) (cls : Value) (d : Option Addr) (sI s' : Shared) (h3 : Heap) : Prop where
  ok : X.Ok
  hs : X.stack = X.env :: X.outer
  hf : X.env.frame = some X.env.locals
  J : Inv X pins σ H sI
  nb : ∀ b o, sI.heap.get? b = some o → b ∉ frs X.stack → B.get? b = some o
  up : sI.heap.UpToSlots s'.heap
  up3 : s'.heap.UpToSlots h3
  fl : HandSPX.FlyingZ B (X.env :: X.outer) a (L2N.Zn cls d) h3
  na : H a = none
  os : s'.os = sI.os
  ag : AllBare s'.gens
theorem fly_frs {E : List Env} {Z : Obj → Prop} {oe : Obj} {vs : Array Value} (x : HandSPX.FlyingZ B E a Z h3) (he : h3.get? a = some oe) (hd : oe.data = .fields vs) : a ∉ frs E := fun hm => by
  obtain ⟨_, o, ho, hnf⟩ := x.2.2.1.mem hm
  rw [he] at ho
  cases ho
  exact hnf _ hd
/-- the suite's state -/
theorem Lndd.suite (L : Lndd X pins σ H a B cls d sI s' h3) {h4 : Heap} (fl4 : HandSPX.FlyingZ B (X.env :: X.outer) a (L2N.Zn cls d) h4) (up4 : h3.UpToSlots h4) : ∃ oe vs, h4.get? a = some oe ∧ L2N.Zn cls d oe ∧ oe.data = .fields vs ∧ Inv (X.suite a ((a, oe) :: (X.pn ++ pins))) [] σ H { s' with heap := h4 } := by
  obtain ⟨oe, vs, he, hz, hd⟩ := fl4.there
  have nfr := fly_frs fl4 he hd
  exact ⟨oe, vs, he, hz, hd, (L.J.landed (s' := { s' with heap := h4 }) L.nb fl4.1 ((L.up.trans L.up3).trans up4) L.os L.ag).suite he hd L.na (fun z => nfr (List.mem_filterMap.mpr ⟨X.env, List.mem_cons_self, by rw [L.hf, z]⟩)) fun hm => by
    obtain ⟨e, he, q⟩ := List.mem_filterMap.mp hm
    exact nfr (List.mem_filterMap.mpr ⟨e, List.mem_cons_of_mem _ he, q⟩)⟩
/-- a clause's class is looked at -/
theorem Lndd.test (L : Lndd X pins σ H a B cls d sI s' h3) {x : Str} {c : Value} {np : Pos} {Q : Value → Shared → Prop} {E : Value → Shared → Prop} (hc : Names X x c) (q : Q c { s' with heap := h3 }) : wpAny (model X.prog X.w) (X.A.mark (some (.ref a))) (eval (.Name x np) X.env) Q E { s' with heap := h3 } := by
  obtain ⟨oe, vs, _, _, _, S⟩ := L.suite L.fl (Heap.UpToSlots.refl _)
  obtain ⟨hg, hdbg, hm | ⟨hm, hv, hnn⟩⟩ := hc
  · exact ld_glob (X := X.suite a ((a, oe) :: (X.pn ++ pins))) S hg hm q hdbg
  · exact ld_blt (X := X.suite a ((a, oe) :: (X.pn ++ pins))) S hg hm hv q hnn hdbg
/-- no clause is left: on with it -/
theorem Lndd.none_left (L : Lndd X pins σ H a B cls d sI s' h3) (tk : L2N.Takes X Wout) (w : Wout cls d σ H) : wpAny (model X.prog X.w) X.A (handleBy (.ref a) X.env []) (SP X pins N) X.xe { s' with heap := h3 } := by
  refine wpAny_handleBy_nil ?_
  obtain ⟨_, _, _, oe, vs, T, oT, ts', he, hz, hd, h1, _⟩ := id L.fl
  unfold PySem.passOn
  refine wpAny_bind (wpAny_field he hd h1 ?_)
  rw [if_neg (show ¬ ((Value.ref T == Value.none) = true) from by simp)]
  have fin : wpAny (model X.prog X.w) X.A (setFlight (.ref a) X.env.frame) (fun _ s4 => wpAny (model X.prog X.w) X.A (throw (.ref a) : Sem Flow) (SP X pins N) X.xe s4) X.xe { s' with heap := h3 } := by
    rw [L.hf]
    refine HandSPX.setFlight_upZ L.fl fun h4 hh4 up4 => wpAny_throw (tk _ _ ?_)
    exact ⟨a, B, sI, pins, σ, H, cls, d, rfl, L.J, L.nb, (L.up.trans L.up3).trans up4, .inr (.inr (by rw [L.hs]; exact hh4)), L.na, L.os, L.ag, w⟩
  first
    | exact wpAny_bind (wpAny_pure (wpAny_bind fin))
    | exact wpAny_bind fin
theorem Lndd.go (L : Lndd X pins σ H a B cls d sI s' h3) (tk : L2N.Takes X Wout) : ∀ {hds : List ExceptHandler} {l : List (Value × Option Nat × Suit)}, Hds X hds l → wCl X.K Wout N l cls d σ H → wpAny (model X.prog X.w) X.A (handleBy (.ref a) X.env hds) (SP X pins N) X.xe { s' with heap := h3 } := by
  intro hds l hk
  have kin : X.K.In h3 := (L.J.landed (s' := { s' with heap := h3 }) L.nb L.fl.1 (L.up.trans L.up3) L.os L.ag).kIn
  have LM : ∀ {c : Value} {b : Bool}, PySem.W.exmOne X.K cls c = some b → _ := fun {c b} hb =>
    PySem.W.exm_one (M := model X.prog X.w) kin (show PySem.W.Looks (model X.prog X.w) h3 (typeOf (.ref a)) cls from fun A Q E s k q => by
      obtain ⟨oe, vs, he, hz, hd, _⟩ := L.suite L.fl (Heap.UpToSlots.refl _)
      exact wpAny_typeOf_ref (k _ _ he) (by rw [hz.1]; exact q)) hb
  induction hk with
  | nil => exact fun w => L.none_left tk w
  | one hc hsu r ih =>
    rintro ⟨b, hb1, hyes, hno⟩
    refine wpAny_handleBy_cons (codeAny_handlers_test (L.test hc ((LM hb1).here ?_))) (by intro q; cases q)
    cases b with
    | false => exact ih (hno rfl)
    | true =>
      refine codeAny_handlers_suite (HandSPX.lands_againZ L.fl fun h4 fl4 up4 => ?_)
      obtain ⟨oe, vs, he, hz, hd, S⟩ := L.suite fl4 up4
      refine wpAny_mono ((hsu a oe cls d (X.pn ++ pins) hz ⟨_, hd⟩).run [] _ _ H _ S (hyes rfl a L.na)) (fun f s6 hsp => ?_) (fun _ _ z => False.elim z)
      cases f with
      | ret u =>
        obtain ⟨v6, σ6, H6, S6, r6, q6⟩ := hsp
        exact ⟨_, _, _, S6.unsuite L.ok, r6, q6⟩
      | next => obtain ⟨σ6, H6, S6, q6⟩ := hsp; exact ⟨_, _, S6.unsuite L.ok, q6⟩
      | brk => obtain ⟨σ6, H6, S6, q6⟩ := hsp; exact ⟨_, _, S6.unsuite L.ok, q6⟩
      | cont => obtain ⟨σ6, H6, S6, q6⟩ := hsp; exact ⟨_, _, S6.unsuite L.ok, q6⟩
  | as hN hi hln hc hsu r ih =>
    rintro ⟨b, hb1, hyes, hno⟩
    refine wpAny_handleBy_cons (codeAny_handlers_test (L.test hc ((LM hb1).here ?_))) (by intro q; cases q)
    cases b with
    | false => exact ih (hno rfl)
    | true =>
      refine codeAny_handlers_suite_as (HandSPX.lands_againZ L.fl fun h4 fl4 up4 => ?_)
      obtain ⟨oe, vs, he, hz, hd, S⟩ := L.suite fl4 up4
      refine store_ok (X := X.suite a ((a, oe) :: (X.pn ++ pins))) (v := .ref a) S hN hi (.inl hln) rfl (fun s5 S5 => ?_) (.inr hln)
      refine wpAny_mono ((hsu a oe cls d (X.pn ++ pins) hz ⟨_, hd⟩).run [] s5 _ H _ S5 (hyes rfl a L.na)) (fun f s6 hsp => ?_) (fun _ _ z => False.elim z)
      cases f with
      | ret u =>
        obtain ⟨v6, σ6, H6, S6, r6, q6⟩ := hsp
        exact gone_ok (S6.unsuite L.ok) hN hi hln fun s7 J7 => ⟨_, _, _, J7, r6, q6⟩
      | next => obtain ⟨σ6, H6, S6, q6⟩ := hsp; exact gone_ok (S6.unsuite L.ok) hN hi hln fun s7 J7 => ⟨_, _, J7, q6⟩
      | brk => obtain ⟨σ6, H6, S6, q6⟩ := hsp; exact gone_ok (S6.unsuite L.ok) hN hi hln fun s7 J7 => ⟨_, _, J7, q6⟩
      | cont => obtain ⟨σ6, H6, S6, q6⟩ := hsp; exact gone_ok (S6.unsuite L.ok) hN hi hln fun s7 J7 => ⟨_, _, J7, q6⟩
end
theorem ps_tryC {X : Cx} {body : List Stmt} {h₀ : ExceptHandler} {hds : List ExceptHandler} {l : List (Value × Option Nat × Suit)} {pos : Pos} {tb : WX → TS} {Wout : WX} (hs : X.stack = X.env :: X.outer) (hf : X.env.frame = some X.env.locals) (tk : L2N.Takes X Wout)
    (hb : ∀ (W : WX) (pn : List (Addr × Obj)) (xe : Value → Shared → Prop), L2N.Takes (X.tr pn xe) W → PassesOwn (model X.prog X.w) X.A X.env xe → PSs (X.tr pn xe) body (tb W))
    (hh : Hds X (h₀ :: hds) l) : PS X (.Try body (h₀ :: hds) [] [] pos) (fun N σ H => tb (wCl X.K Wout N l) N σ H) := by
  refine ⟨fun pins s σ H N I h => ?_⟩
  refine wpAny_Try_except (wpAny_mono ((hb (wCl X.K Wout N l) (X.pn ++ pins) (fun e s₁ => wpAny (model X.prog X.w) X.A (noteFrame e X.env) (fun _ s₂ => wpAny (model X.prog X.w) X.A (setFlight e none) (fun _ s₃ =>
    wpAny (model X.prog X.w) X.A (handleBy e X.env (h₀ :: hds)) (SP X pins N) X.xe s₃) X.xe s₂) X.xe s₁) ?_ PassesOwn.looking).run [] s σ H N (I.toTry _) h) (fun f s1 hsp => ?_) fun e s1 he => he)
  · rintro u s' ⟨a, B, sI, pins', σ', H', cls, d, rfl, J', nb, up, sky, na, os, ag, w⟩
    refine L2N.Sky.land L2N.Zn.steady (by rw [I.ok.frames, hs]) hf (by rw [← hs]; exact sky) fun h3 fl3 up3 => ?_
    exact Lndd.go ⟨I.ok, hs, hf, J'.ofTry I.ok, nb, up, up3, fl3, na, os, ag⟩ tk hh w
  · cases f with
    | ret u =>
      obtain ⟨v, σ', H', J', r, q⟩ := hsp
      exact ⟨v, σ', H', J'.ofTry I.ok, r, q⟩
    | next => obtain ⟨σ', H', J', q⟩ := hsp; exact wpAny_execs_nil ⟨σ', H', J'.ofTry I.ok, q⟩
    | brk => obtain ⟨σ', H', J', q⟩ := hsp; exact ⟨σ', H', J'.ofTry I.ok, q⟩
    | cont => obtain ⟨σ', H', J', q⟩ := hsp; exact ⟨σ', H', J'.ofTry I.ok, q⟩
/-! ### the statement -/
open Classical in
/-- what comes whatever the address is -/
noncomputable def allA (f : Addr → Flw) : Flw := if h : ∃ r, ∀ a, f a = r then h.choose else .bad
theorem allA_of {f : Addr → Flw} {r : Flw} (h : ∀ a, f a = r) : allA f = r := by
  unfold allA
  rw [dif_pos ⟨r, h⟩]
  have hx : ∃ r, ∀ a, f a = r := ⟨r, h⟩
  exact (hx.choose_spec 0).symm.trans (h 0)
def unE : Option Nat → Flw → Flw
  | _, .ex _ _ => .bad
  | some i, .nx ρ => .nx (ρ.set i none)
  | some i, .bk ρ => .bk (ρ.set i none)
  | some i, .ct ρ => .ct (ρ.set i none)
  | _, .rt t ρ => .rt t (List.replicate ρ.length none)
  | _, r => r
def setE : Option Nat → Addr → En → En
  | none, _, ρ => ρ
  | some i, a, ρ => ρ.set i (some (.d (.exn a)))
/-- a clause: its class, its name's slot, its suite -/
structure Clz where
  c : Str
  n : Option Nat
  f : Addr → Str → En → Flw
noncomputable def hdl (sub : Str → Str → Bool) : List Clz → Exn → En → Flw
  | [], x, ρ => .ex x ρ
  | k :: ks, x, ρ => if sub x.c k.c = true then allA (fun a => unE k.n (k.f a x.c (setE k.n a ρ))) else hdl sub ks x ρ
noncomputable def tryF (T : List Str) (sub : Str → Str → Bool) (F : En → Flw) (ks : List Clz) (ρ : En) : Flw := match F ρ with
  | .ex x ρ' => if decide (x.c ∈ T) && x.p.isNone then hdl sub ks x ρ' else .bad
  | r => r
theorem Rep.gone {K : PySem.W.Frag} {mg : Str → Option Value} {B : Bs} {G H : Hp} {σ : L2.St} {ρ : En} (r : Rep K mg B G H σ ρ) {i : Nat} (hi : ∀ q ∈ B.io, q.1 ≠ i) : Rep K mg B G H (σ.set i none) (ρ.set i none) := by
  obtain ⟨F, f⟩ := r.sl
  refine ⟨⟨r.g.gh, r.g.oh, r.g.g0, r.g.og, fun q hq => ?_⟩, by rw [List.length_set, List.length_set]; exact r.len, F, fun j u e => ?_, f.nd, f.at_, f.dj⟩
  · rw [List.getElem?_set_ne (fun z => hi q hq z.symm)]; exact r.g.io q hq
  · rcases get_set e with ⟨_, _, e2⟩ | ⟨ne, e⟩
    · cases e2
    · obtain ⟨v, a, b⟩ := f.rep j u e
      exact ⟨v, by rw [List.getElem?_set_ne ne]; exact a, b⟩
section
variable {X : Cx} {W : WW} {io : List Nat} {T : List Str} {sub : Str → Str → Bool} {F : En → Flw}
theorem _root_.FL.RepV.forget {K : PySem.W.Frag} {mg : Str → Option Value} {B : Bs} {G H : Hp} {σ : L2.St} {ρ : En} {t : OT} {v : V} (r : RepV K mg B G H σ ρ t v) (i : Nat) : RepV K mg B G H σ (ρ.set i none) t v := by
  obtain ⟨F, fv, f, h⟩ := r.sl
  exact ⟨r.g, by rw [List.length_set]; exact r.len, F, fv, f.forget i, h⟩
theorem _root_.FL.RepV.void {K : PySem.W.Frag} {mg : Str → Option Value} {B : Bs} {G H : Hp} {σ : L2.St} {ρ : En} {t : OT} {v : V} (r : RepV K mg B G H σ ρ t v) : RepV K mg B G H σ (List.replicate ρ.length none) t v := by
  obtain ⟨F, fv, f, h1, h2, h3, h4⟩ := r.sl
  refine ⟨r.g, by rw [List.length_replicate]; exact r.len, fun _ => [], fv, ⟨fun i u e => ?_, fun _ => List.nodup_nil, fun i p hp => absurd hp (by simp), fun i j p _ hp => absurd hp (by simp)⟩, h1, h2, h3, fun i p _ hp => absurd hp (by simp)⟩
  rw [List.getElem?_replicate] at e
  split at e <;> cases e
theorem out_un {B : Bs} {N : Ends} {n : Option Nat} {r : Flw} (hio : ∀ i, n = some i → ∀ q ∈ B.io, q.1 ≠ i) (o : Out X W B N (unE n r)) : Out X W0 B (FL.gone n N) r := by
  cases n with
  | none =>
    cases r with
    | rt t ρ => exact fun v σ G H r => o v σ G H r.void
    | _ => first | exact o | exact o.elim
  | some i =>
    have hi := hio i rfl
    cases r with
    | nx ρ => exact fun σ G H r => o _ G H (r.gone hi)
    | bk ρ => exact fun σ G H r => o _ G H (r.gone hi)
    | ct ρ => exact fun σ G H r => o _ G H (r.gone hi)
    | rt t ρ => exact fun v σ G H r => o v σ G H r.void
    | ex c ρ => exact o.elim
    | bad => exact o
inductive Cls (X : Cx) (io : List Nat) (T : List Str) : List ExceptHandler → List Clz → Prop
  | nil : Cls X io T [] []
  | one {x : Str} {f : Addr → Str → En → Flw} {b₀ : Stmt} {suite : List Stmt} {np pos' : Pos} {hds : List ExceptHandler} {l : List Clz} (hx : x ∈ T) (hg : Gl X x) (hd : (x == ("__debug__" : Str)) = false)
      (hsu : ∀ (a : Addr) (pn : List (Addr × Obj)) (c : Str), c ∈ T → Cau (X.suite a pn) a c → SS (X.suite a pn) W0 io (b₀ :: suite) (f a c)) (r : Cls X io T hds l) : Cls X io T (.ExceptHandler (some (.Name x np)) none (b₀ :: suite) pos' :: hds) (⟨x, none, f⟩ :: l)
  | as {x n : Str} {i : Nat} {f : Addr → Str → En → Flw} {b₀ : Stmt} {suite : List Stmt} {np pos' : Pos} {hds : List ExceptHandler} {l : List Clz} (hx : x ∈ T) (hg : Gl X x) (hd : (x == ("__debug__" : Str)) = false) (hN : X.N.Nodup) (hi : X.N[i]? = some n) (hln : X.env.kindOf n = some .local) (hio : i ∉ io)
      (hsu : ∀ (a : Addr) (pn : List (Addr × Obj)) (c : Str), c ∈ T → Cau (X.suite a pn) a c → SS (X.suite a pn) W0 io (b₀ :: suite) (f a c)) (r : Cls X io T hds l) : Cls X io T (.ExceptHandler (some (.Name x np)) (some n) (b₀ :: suite) pos' :: hds) (⟨x, some i, f⟩ :: l)
/-- one suite -/
def su1 (X : Cx) (T : List Str) (B : Bs) (f : Addr → Str → En → Flw) : Suit := fun a cls d N σ H => ∃ c G ρ, c ∈ T ∧ X.mg c = some cls ∧ d = none ∧ Rep X.K X.mg B G H σ ρ ∧ Out X W0 B N (f a c ρ)
theorem su1_ok {f : Addr → Str → En → Flw} {b₀ : Stmt} {suite : List Stmt} {B : Bs} (k : ExK X.K X.mg T sub) (hB : B.io.map (·.1) = io)
    (hsu : ∀ (a : Addr) (pn : List (Addr × Obj)) (c : Str), c ∈ T → Cau (X.suite a pn) a c → SS (X.suite a pn) W0 io (b₀ :: suite) (f a c)) (a : Addr) (oe : Obj) (cls : Value) (d : Option Addr) (pn : List (Addr × Obj)) (hz : L2N.Zn cls d oe) (hf : ∃ vs, oe.data = .fields vs) :
    PSs (X.suite a ((a, oe) :: pn)) (b₀ :: suite) (su1 X T B f a cls d) := by
  refine ⟨fun pins s σ H N I ⟨c, G, ρ, hc, hm, hd, r, o⟩ => ?_⟩
  subst hd
  obtain ⟨C, hC⟩ := k.cls c hc
  have e : cls = .ref C := Option.some.inj (hm.symm.trans hC)
  subst e
  exact ((hsu a ((a, oe) :: pn) c hc ⟨oe, C, List.mem_cons_self, hm, hz, hf⟩).run B hB).run pins s σ H N I ⟨G, ρ, r, o⟩
theorem allA_out {B : Bs} {N : Ends} {f : Addr → Flw} (o : Out X W B N (allA f)) (a : Addr) : Out X W B N (f a) := by
  unfold allA at o
  split at o
  · rename_i h
    rw [h.choose_spec a]; exact o
  · exact o.elim
theorem Cls.hds (k : ExK X.K X.mg T sub) {B : Bs} (hB : B.io.map (·.1) = io) : ∀ {hds : List ExceptHandler} {l : List Clz}, Cls X io T hds l → ∃ l', Hds X hds l' ∧
    ∀ {Wout : WX} {N : Ends} {x : Exn} {ρ : En} {σ : L2.St} {G H : Hp} {cls : Value} {dd : Option Addr}, x.c ∈ T → x.p = none → W.w = Wout → Out X W B N (hdl sub l x ρ) → Rep X.K X.mg B G H σ ρ → RX X.K X.mg G H x cls dd → wCl X.K Wout N l' cls dd σ H := by
  intro hds l h
  have exq : ∀ {x : Exn} {G H : Hp} {cls : Value} {dd : Option Addr}, x.p = none → RX X.K X.mg G H x cls dd → X.mg x.c = some cls ∧ dd = none := fun {x G H cls dd} hp h => ⟨h.1, by
    have h2 := h.2
    rw [hp] at h2
    exact h2⟩
  induction h with
  | nil => exact ⟨[], .nil, fun {Wout N x ρ σ G H cls dd} _ _ hw o r q => by subst hw; exact o.2 σ G H cls dd r q⟩
  | @one x f b₀ suite np pos' hds l hx hg hd hsu r ih =>
    obtain ⟨l', h1, h2⟩ := ih
    obtain ⟨E, hE⟩ := k.cls x hx
    refine ⟨(.ref E, none, su1 X T B f) :: l', .one ⟨hg, hd, .inl hE⟩ (fun a oe cls d pn hz hf => su1_ok k hB hsu a oe cls d pn hz hf) h1, fun {Wout N y ρ σ G H cls dd} hc hp hw o r q => ?_⟩
    obtain ⟨q1, q2⟩ := exq hp q
    obtain ⟨C, hC⟩ := k.cls y.c hc
    have e : cls = .ref C := Option.some.inj (q1.symm.trans hC)
    refine ⟨sub y.c x, by rw [e]; exact (k.exm y.c hc x hx C E hC hE).1, fun hy a na => ?_, fun hn => ?_⟩
    · unfold hdl at o
      rw [if_pos hy] at o
      refine ⟨y.c, G, ρ, hc, q1, q2, r, out_un (W := W) (fun i z => nomatch z) (allA_out o a)⟩
    · unfold hdl at o
      rw [if_neg (by rw [hn]; exact Bool.false_ne_true)] at o
      exact h2 hc hp hw o r q
  | @as x n i f b₀ suite np pos' hds l hx hg hd hN hi hln hio hsu r ih =>
    obtain ⟨l', h1, h2⟩ := ih
    obtain ⟨E, hE⟩ := k.cls x hx
    refine ⟨(.ref E, some i, su1 X T B f) :: l', .as hN hi hln ⟨hg, hd, .inl hE⟩ (fun a oe cls d pn hz hf => su1_ok k hB hsu a oe cls d pn hz hf) h1, fun {Wout N y ρ σ G H cls dd} hc hp hw o r q => ?_⟩
    obtain ⟨q1, q2⟩ := exq hp q
    obtain ⟨C, hC⟩ := k.cls y.c hc
    have e : cls = .ref C := Option.some.inj (q1.symm.trans hC)
    have hne := io_ne hB hio
    refine ⟨sub y.c x, by rw [e]; exact (k.exm y.c hc x hx C E hC hE).1, fun hy a na => ?_, fun hn => ?_⟩
    · unfold hdl at o
      rw [if_pos hy] at o
      exact ⟨y.c, G, _, hc, q1, q2, (r.val (d := .exn a) rfl).set hne, out_un (W := W) (fun j z => by cases z; exact hne) (allA_out o a)⟩
    · unfold hdl at o
      rw [if_neg (by rw [hn]; exact Bool.false_ne_true)] at o
      exact h2 hc hp hw o r q
theorem S1.try {body : List Stmt} {h₀ : ExceptHandler} {hds : List ExceptHandler} {l : List Clz} {pos : Pos} (k : ExK X.K X.mg T sub) (tk : L2N.Takes X W.w) 
    (hb : ∀ (W' : WX) (pn : List (Addr × Obj)) (xe : Value → Shared → Prop), L2N.Takes (X.tr pn xe) W' → PassesOwn (model X.prog X.w) X.A X.env xe → SS (X.tr pn xe) ⟨True, W'⟩ io body F)
    (hc : Cls X io T (h₀ :: hds) l) (hs : X.stack = X.env :: X.outer := by rfl) (hf : X.env.frame = some X.env.locals := by rfl) : S1 X W io (.Try body (h₀ :: hds) [] [] pos) (tryF T sub F l) := ⟨fun B hB => by
  obtain ⟨l', h1, h2⟩ := hc.hds (W := W) k hB
  refine PS.mono (ps_tryC (tb := fun W' => lS X ⟨True, W'⟩ B F) hs hf tk (fun W' pn xe t p => (hb W' pn xe t p).run B hB) h1) fun N σ H ⟨G, ρ, r, h⟩ => ⟨G, ρ, r, ?_⟩
  unfold tryF at h
  cases e : F ρ with
  | ex x ρ' =>
    rw [e] at h
    dsimp only at h
    split at h
    · rename_i hx
      obtain ⟨h3, h4⟩ := Bool.and_eq_true_iff.mp hx
      exact ⟨trivial, fun σ G H cls dd r q => h2 (of_decide_eq_true h3) (Option.isNone_iff_eq_none.mp h4) rfl h r q⟩
    · exact h.elim
  | nx ρ' => rw [e] at h; exact h
  | bk ρ' => rw [e] at h; exact h
  | ct ρ' => rw [e] at h; exact h
  | rt t ρ' => rw [e] at h; exact h
  | bad => rw [e] at h; exact h⟩
/-- nothing is let out -/
theorem takesN0 : L2N.Takes X W0.w := fun _ _ ⟨_, _, _, _, _, _, _, _, _, _, _, _, _, _, _, _, z⟩ => z.elim
end
end FL
/-! The functional layer, part T: what the head is asked, own tests besides. -/
namespace FL
open PySem PySem.Spec PyProof.Rows L2 He
section
variable {K : PySem.W.Frag} {mg : Str → Option Value}
def cauB (K : PySem.W.Frag) (C : Addr) : Bool :=
  eqO (PySem.W.findIn K (.ref C) "__getattribute__") (some (some (.builtin "BaseException.__getattribute__"))) &&
  (eqO (PySem.W.findIn K (.ref C) "__getattr__") (some none) &&
  (decide (PySem.W.subIn K (.ref C) (.type "BaseException") = some true) &&
  (PySem.W.hasDictIn K C &&
  (eqO (PySem.W.findIn K (.ref C) "__class__") (some (some (.builtin "object.__class__"))) &&
  (eqO (PySem.W.specialIn K (.builtin "object.__class__") "__get__") (some (some (.builtin "getset_descriptor.__get__"))) &&
  (decide (PySem.W.takesIn K (.builtin "object.__class__") = some true) &&
  decide (PySem.W.mroIn K C (.type "object") = some true)))))))
theorem cauB_ok {C : Addr} (h : cauB K C = true) : L2.ExcC K C := by
  unfold cauB at h
  simp only [Bool.and_eq_true] at h
  obtain ⟨h1, h2, h3, h4, h5, h6, h7, h8⟩ := h
  exact ⟨eqO_ok h1, eqO_ok h2, of_decide_eq_true h3, h4, eqO_ok h5, eqO_ok h6, of_decide_eq_true h7, of_decide_eq_true h8⟩
def exkB (K : PySem.W.Frag) (T : List Str) (sub : Str → Str → Bool) : Bool := T.all fun c => (Fa.glo c).ok K && (cauB K (ga K c) && (decide (PySem.W.kitOne K (.ref (ga K c)) (.type "ValueError") = some true) &&
  T.all fun d => decide (PySem.W.exmOne K (.ref (ga K c)) (.ref (ga K d)) = some (sub c d)) && decide (PySem.W.kitOne K (.ref (ga K c)) (.ref (ga K d)) = some (sub c d))))
theorem exkB_ok {h : Heap} {T : List Str} {sub : Str → Str → Bool} (X : K.In h) (G : h.Ns mainGlobals mg) (q : exkB K T sub = true) : ExK K mg T sub := by
  have q1 := List.all_eq_true.mp q
  have g : ∀ c ∈ T, mg c = some (.ref (ga K c)) := fun c hc => glo_ok X G (ba (q1 c hc)).1
  refine ⟨fun c hc => ⟨_, g c hc⟩, fun c hc C hC => ?_, fun c hc d hd C E hC hE => ?_, fun c hc C hC => ?_⟩
  · rw [g c hc] at hC; cases hC
    exact cauB_ok (ba (ba (q1 c hc)).2).1
  · rw [g c hc] at hC; cases hC
    rw [g d hd] at hE; cases hE
    have q2 := ba (List.all_eq_true.mp (ba (ba (ba (q1 c hc)).2).2).2 d hd)
    exact ⟨of_decide_eq_true q2.1, of_decide_eq_true q2.2⟩
  · rw [g c hc] at hC; cases hC
    exact of_decide_eq_true (ba (ba (ba (q1 c hc)).2).2).1
theorem rz_ok {h : Heap} {x : Str} (X : K.In h) (G : h.Ns mainGlobals mg) (g : (Fa.glo x).ok K = true) (c : (Fa.exc x).ok K = true) : Rz K mg x := by
  obtain ⟨h1, h2, h3, h4⟩ := exc_ok c
  exact ⟨_, glo_ok X G g, h1, h2, h3, h4⟩
/-! ### the hook -/
def obsF (tt : PySem.W.Frag → Bool) (fn : List DefD) (K : PySem.W.Frag) : AlD := (tt K && fn.all fun d => d.ok K, fn.map fun d => fnW K d.at_)
def SaysF (tt : PySem.W.Frag → Bool) (fn : List DefD) (K : PySem.W.Frag) : Prop := obsF tt fn K = valD fn
def obsFG (n : Nat) (tt : PySem.W.Frag → Bool) (fn : List DefD) (g : Addr → Option Obj) : AlD := obsF tt fn (frG g (asD g n))
def hookF (n : Nat) (tt : PySem.W.Frag → Bool) (fn : List DefD) : PySem.W.Hook where
  α := AlD
  obs := fun s => obsFG n tt fn s.heap.get?
  val := fun _ => valD fn
  says := fun _ h => ∃ K : PySem.W.Frag, K.In h ∧ SaysF tt fn K
  of := fun _ _ e => ⟨_, frG_in, e⟩
  keeps := fun _ _ _ ⟨K, hK, c⟩ k => ⟨K, PySem.W.Frag.In.keeps hK k, c⟩
theorem obsFG_eq {n : Nat} {tt : PySem.W.Frag → Bool} {fn : List DefD} {g : Addr → Option Obj} {s : Shared} (h : ∀ a, g a = s.heap.get? a) : obsFG n tt fn g = (hookF n tt fn).obs s := by
  have e : g = s.heap.get? := funext h
  rw [e] <;> rfl
variable {tt : PySem.W.Frag → Bool} {fn : List DefD}
theorem SaysF.tests (c : SaysF tt fn K) : tt K = true := (ba (show (tt K && fn.all fun d => d.ok K) = true from congrArg (fun z : AlD => z.1) c)).1
theorem SaysF.def_ (c : SaysF tt fn K) (i : Nat) {d : DefD} (h : fn[i]? = some d := by rfl) : ∃ fd, FunD K d.name d.qual d.params d.body d.scope (d.dvs K) (d.kws K) (fAd K d.at_) fd := by
  have c2 := (ba (show (tt K && fn.all fun d => d.ok K) = true from congrArg (fun z : AlD => z.1) c)).2
  have e : fn.map (fun d => fnW K d.at_) = fn.map DefD.val := congrArg (fun z : AlD => z.2) c
  have e2 : (fn.map fun d => fnW K d.at_)[i]? = (fn.map DefD.val)[i]? := by rw [e]
  rw [List.getElem?_map, List.getElem?_map, h] at e2
  exact DefD.funD (Option.some.inj e2) (List.all_eq_true.mp c2 d (List.mem_of_getElem? h))
/-- facts by their place, and own tests -/
def ttF (fa : List Fa) (T : List Str) (sub : Str → Str → Bool) (K : PySem.W.Frag) : Bool := (fa.all fun f => f.ok K) && exkB K T sub
theorem ttF_fact {fa : List Fa} {T : List Str} {sub : Str → Str → Bool} (h : ttF fa T sub K = true) (i : Nat) {f : Fa} (q : fa[i]? = some f := by rfl) : f.ok K = true := List.all_eq_true.mp (ba h).1 f (List.mem_of_getElem? q)
theorem ttF_exk {fa : List Fa} {T : List Str} {sub : Str → Str → Bool} (h : ttF fa T sub K = true) : exkB K T sub = true := (ba h).2
end
end FL
/-! The functional layer, part U: several stores at once; fresh things made of owned ones. -/
namespace FL
open PySem PySem.Spec PyProof.Rows L2
/-! comprehensions within comprehensions -/
def relS (scope sc : Scope) : Scope := { scope with names := scope.names.map fun (n, k) => if (k == .free && sc.kind == .function && sc.names.lookup n == some .cell) then (n, .cell) else (n, k) }
theorem blk_in {N : List Str} {sc0 scope scope2 : Scope} {own : List (Str × Nat)} {cl : List (Str × Addr)} {C : Addr} {env : Env} (he : env.scope = sc0) (h : blkC N (relS scope sc0) scope2 own = true) : BlkOk N (compEnvC scope cl C env).scope scope2 own := by
  subst he
  exact blkOk_by h
mutual
/-- a tree with flat leaves -/
def flatT : OT → Bool
  | .d x => flat x
  | .lst ts => flatTs ts
  | .tup ts => flatTs ts
  | .dK _ ts => flatTs ts
  | .dT _ ts => flatTs ts
  | .ins _ _ ts => flatTs ts
def flatTs : List OT → Bool
  | [] => true
  | t :: ts => flatT t && flatTs ts
end
section
variable {K : PySem.W.Frag} {mg : Str → Option Value} {G G' H : Hp}
mutual
theorem RO.flat : ∀ {t : OT} {v : V} {fp : List Addr}, flatT t = true → RO K mg G H t v fp → RO K mg G' H t v fp
  | .d x, _, _, f, ⟨e, h⟩ => ⟨e, R.flat (by simpa [flatT] using f) h⟩
  | .lst ts, _, _, f, ⟨a, vs, fs, e, e2, l, h, r⟩ => ⟨a, vs, fs, e, e2, l, h, ROs.flat (by simpa [flatT] using f) r⟩
  | .tup ts, _, _, f, ⟨a, vs, fs, e, e2, l, h, r⟩ => ⟨a, vs, fs, e, e2, l, h, ROs.flat (by simpa [flatT] using f) r⟩
  | .dK _ ts, _, _, f, ⟨a, vs, fs, e, e2, l, h, r⟩ => ⟨a, vs, fs, e, e2, l, h, ROs.flat (by simpa [flatT] using f) r⟩
  | .dT _ ts, _, _, f, ⟨a, vs, fs, e, e2, l, h, r⟩ => ⟨a, vs, fs, e, e2, l, h, ROs.flat (by simpa [flatT] using f) r⟩
  | .ins _ _ ts, _, _, f, ⟨a, ca, dx, vs, fs, e, c, e2, l, h, r⟩ => ⟨a, ca, dx, vs, fs, e, c, e2, l, h, ROs.flat (by simpa [flatT] using f) r⟩
theorem ROs.flat : ∀ {ts : List OT} {vs : List V} {fp : List Addr}, flatTs ts = true → ROs K mg G H ts vs fp → ROs K mg G' H ts vs fp
  | [], _, _, _, h => h
  | t :: ts, _, _, f, ⟨v, r, f1, f2, e, e2, h, q⟩ => by
    simp only [flatTs, Bool.and_eq_true] at f
    exact ⟨v, r, f1, f2, e, e2, RO.flat f.1 h, ROs.flat f.2 q⟩
end
end
/-- what is made new of owned things as they stand -/
def borO (f : En → Res OT) (ρ : En) : Res OT := match f (frz ρ) with
  | .ok t => if (flatT t || (immT t && noE ρ)) = true then .ok t else .bad
  | .ex x => match x.p with
    | none => .ex x
    | some _ => .bad
  | .bad => .bad
section
variable {X : Cx} {W : WW} {io : List Nat} {a b e e1 e2 e3 : Expr} {fo f1 f2 f3 : En → Res OT} {pos px py pz pt pt2 : Pos} {x y z : Str}
theorem EO.bor (h : EO X W e fo) : EO X W e (borO fo) := ⟨fun B => PE.mono (h.run B) fun σ H Q ⟨G, ρ, r, h⟩ => by
  obtain ⟨G1, g1, n1, t1, r1⟩ := r.fzAll'
  refine ⟨G1, frz ρ, r1, ?_⟩
  unfold FL.borO at h
  cases e1 : fo (frz ρ) with
  | ok t =>
    rw [e1] at h
    dsimp only at h
    split at h
    · rename_i ft
      rintro v G' H' s ⟨fp, q1, q2, q3⟩
      rw [Bool.or_eq_true, Bool.and_eq_true] at ft
      refine h v _ H' (bor_stp r.gh g1 s) ⟨fp, ft.elim (fun ft => RO.flat ft q1) fun ft => RO.imm (bor_tup (t1 ft.2) s) ft.1 q1, q2, fun p hp => ⟨(q3 p hp).1, ?_⟩⟩
      (try dsimp only)
      rw [if_neg (by rw [(q3 p hp).1]; exact Bool.false_ne_true)]
      exact (q3 p hp).2
    · exact h.elim
  | ex c =>
    rw [e1] at h
    dsimp only at h
    split at h
    · rename_i ep
      refine ⟨h.1, fun G' H' cls dd s q => h.2 _ H' cls dd (bor_stp r.gh g1 s) ⟨q.1, ?_⟩⟩
      have q2 := q.2
      rw [ep] at q2 ⊢
      exact q2
    · exact h.elim
  | bad => rw [e1] at h; exact h⟩
/-! several stores at once -/
def parO2 (i j : Nat) (fa fb : En → Res OT) (ρ : En) : Flw := bindF (fa ρ) ρ fun t => bindF (fb ρ) ρ fun u => .nx ((ρ.set i (some t)).set j (some u))
def parO3 (i j l : Nat) (fa fb fc : En → Res OT) (ρ : En) : Flw := bindF (fa ρ) ρ fun t => bindF (fb ρ) ρ fun u => bindF (fc ρ) ρ fun w => .nx (((ρ.set i (some t)).set j (some u)).set l (some w))
theorem S1.par2 (i j : Nat) {kt k2} (ha : EO X W e1 f1) (hb : EO X W e2 f2) (hN : X.N.Nodup) (hc : X.calm = true := by rfl) (hij : i ≠ j := by decide) (hio : i ∉ io := by decide) (hio2 : j ∉ io := by decide) (hi : X.N[i]? = some x := by rfl) (hj : X.N[j]? = some y := by rfl)
    (hx : X.env.scope.names.lookup x = some .local := by rfl) (hy : X.env.scope.names.lookup y = some .local := by rfl)
    (hw : swappedStores [.Tuple [.Name x px, .Name y py] kt pt] (.Tuple [e1, e2] k2 pt2) X.env = pure (some [x, y]) := by rfl)
    (hs : swapsWithSole [.Tuple [.Name x px, .Name y py] kt pt] (.Tuple [e1, e2] k2 pt2) pos.line X.env = pure false := by rfl)
    (s1 : starEach [e1, e2] X.env = (false, eval e1 X.env) :: starEach [e2] X.env := by rfl) (s2 : starEach [e2] X.env = (false, eval e2 X.env) :: starEach [] X.env := by rfl) :
    S1 X W io (.Assign [.Tuple [.Name x px, .Name y py] kt pt] (.Tuple [e1, e2] k2 pt2) pos) (parO2 i j f1 f2) := ⟨fun B hB =>
  PS.mono (ps_par hc hN hi hj hij hx hy (pa_cons (ha.run B) (pa_cons (hb.run B) pa_nil s2) s1) hw hs) fun N σ H ⟨G, ρ, r, h⟩ =>
    lift.of r h fun t v G1 H1 r1 t1 ⟨fp, q1, q2, q3⟩ o => lift.of r1 o fun u w G2 H2 r2 t2 ⟨fp2, p1, p2, p3⟩ o2 =>
      ⟨v, w, rfl, o2 _ _ _ ((((r.fresh t1 q1 q2 q3).set (io_ne hB hio)).fresh t2 p1 p2 p3).set (io_ne hB hio2))⟩⟩
theorem S1.par3 (i j l : Nat) {kt k2} (ha : EO X W e1 f1) (hb : EO X W e2 f2) (hd : EO X W e3 f3) (hN : X.N.Nodup) (hc : X.calm = true := by rfl) (hij : i ≠ j := by decide) (hil : i ≠ l := by decide) (hjl : j ≠ l := by decide) (hio : i ∉ io := by decide) (hio2 : j ∉ io := by decide) (hio3 : l ∉ io := by decide)
    (hi : X.N[i]? = some x := by rfl) (hj : X.N[j]? = some y := by rfl) (hl : X.N[l]? = some z := by rfl)
    (hx : X.env.scope.names.lookup x = some .local := by rfl) (hy : X.env.scope.names.lookup y = some .local := by rfl) (hz : X.env.scope.names.lookup z = some .local := by rfl)
    (hw : swappedStores [.Tuple [.Name x px, .Name y py, .Name z pz] kt pt] (.Tuple [e1, e2, e3] k2 pt2) X.env = pure (some [x, y, z]) := by rfl)
    (hs : swapsWithSole [.Tuple [.Name x px, .Name y py, .Name z pz] kt pt] (.Tuple [e1, e2, e3] k2 pt2) pos.line X.env = pure false := by rfl)
    (s1 : starEach [e1, e2, e3] X.env = (false, eval e1 X.env) :: starEach [e2, e3] X.env := by rfl) (s2 : starEach [e2, e3] X.env = (false, eval e2 X.env) :: starEach [e3] X.env := by rfl) (s3 : starEach [e3] X.env = (false, eval e3 X.env) :: starEach [] X.env := by rfl) :
    S1 X W io (.Assign [.Tuple [.Name x px, .Name y py, .Name z pz] kt pt] (.Tuple [e1, e2, e3] k2 pt2) pos) (parO3 i j l f1 f2 f3) := ⟨fun B hB =>
  PS.mono (ps_par3 hc hN hi hj hl hij hil hjl hx hy hz (pa_cons (ha.run B) (pa_cons (hb.run B) (pa_cons (hd.run B) pa_nil s3) s2) s1) hw hs) fun N σ H ⟨G, ρ, r, h⟩ =>
    lift.of r h fun t v G1 H1 r1 t1 ⟨fp, q1, q2, q3⟩ o => lift.of r1 o fun u w G2 H2 r2 t2 ⟨fp2, p1, p2, p3⟩ o2 => lift.of r2 o2 fun k m G3 H3 r3 t3 ⟨fp3, m1, m2, m3⟩ o3 =>
      ⟨v, w, m, rfl, o3 _ _ _ ((((((r.fresh t1 q1 q2 q3).set (io_ne hB hio)).fresh t2 p1 p2 p3).set (io_ne hB hio2)).fresh t3 m1 m2 m3).set (io_ne hB hio3))⟩⟩
end
end FL
/-! The functional layer, part V: new lists by +, by *, by a slice, owned. -/
namespace FL
open PySem PySem.Spec PyProof.Rows L2
section
variable {X : Cx} {W : WW} {io : List Nat} {a b e : Expr} {fa fb : En → Res D} {pos p2 : Pos}
def rO (X : Cx) (g : D → D → Option OT) : V → V → Hp → VK → Prop := fun x y H Q => ∃ G d e c, Same G H ∧ R X.K X.mg G d x ∧ R X.K X.mg G e y ∧ g d e = some c ∧ ∀ v G' H', Stp G H G' H' → relO X.K X.mg H G' H' c v → Q v H'
def op2O (g : D → D → Option OT) (fa fb : En → Res D) (ρ : En) : Res OT := (fa ρ).bind fun x => (fb ρ).bind fun y => ofO (g x y)
theorem binO_next {g : D → D → Option OT} {B : Bs} {σ : L2.St} {H : Hp} {Q : VK} (h : lift X W (relO X.K X.mg) B (op2O g fa fb) σ H Q) :
    lift X W (relD X.K X.mg) B fa σ H fun x H1 => lift X W (relD X.K X.mg) B fb σ H1 fun y H2 => rO X g x y H2 Q := by
  obtain ⟨G, ρ, r, h⟩ := h
  refine lift.next (rel := relD X.K X.mg) (g := fun x ρ => (fb ρ).bind fun y => ofO (g x y)) later_O r h fun d x G1 H1 r1 s1 q1 w1 => ?_
  refine lift.next (rel := relD X.K X.mg) (g := fun y _ => ofO (g d y)) later_O r1 w1 fun e y G2 H2 r2 s2 q2 w2 => ?_
  cases hg : g d e with
  | none => rw [hg] at w2; exact w2.elim
  | some c =>
    rw [hg] at w2
    exact ⟨G2, d, e, c, r2.gh, R.mono s2.gg q1, q2, hg, w2⟩
theorem EO.bin {op : Operator} {g : D → D → Option OT} (ho : OpR X (binaryOp op) (rO X g)) (ha : EF X W a fa) (hb : EF X W b fb) : EO X W (.BinOp a op b pos) (op2O g fa fb) := ⟨fun B => PE.mono (pe_op ho (ha.run B) (hb.run B)) fun σ H Q h => binO_next h⟩
def mulO : D → D → Option OT
  | .lst a, .int k => if -(2 ^ 63) ≤ k ∧ k < 2 ^ 63 ∧ a.length * k.toNat ≤ 16777216 then some (.lst ((List.replicate k.toNat a).flatten.map .d)) else none
  | _, _ => none
theorem mulO_ok : OpR X (binaryOp .Mult) (rO X mulO) := by
  rintro pins s σ H x y v u Q I rx ry ⟨G, d, e, c, gh, r1, r2, hg, k⟩
  unfold mulO at hg
  split at hg
  · split at hg
    · rename_i a n hl; cases hg
      obtain ⟨p, vs, rfl, _, e1, q1⟩ := r1.lst
      refine op_rep pins s σ H _ y v u Q I rx ry ⟨p, n, vs, rfl, r2, gh _ _ e1, hl.1, hl.2.1, by rw [q1.len]; exact sz_le hl.2.2, fun q hq => ?_⟩
      exact k _ _ _ (Stp.own gh hq) (relO.newL gh hq (by rw [List.length_flatten, List.map_replicate, List.sum_replicate_nat, Nat.mul_comm]; exact sz_le hl.2.2) (q1.rep _))
    · cases hg
  · cases hg
def addO : D → D → Option OT
  | .lst a, .lst b => if a.length + b.length ≤ 16777216 then some (.lst ((a ++ b).map .d)) else none
  | _, _ => none
theorem addO_ok : OpR X (binaryOp .Add) (rO X addO) := by
  rintro pins s σ H x y v u Q I rx ry ⟨G, d, e, c, gh, r1, r2, hg, k⟩
  unfold addO at hg
  split at hg
  · split at hg
    · rename_i hl; cases hg
      obtain ⟨p, vs, rfl, _, e1, q1⟩ := r1.lst
      obtain ⟨p2, us, rfl, _, e2, q2⟩ := r2.lst
      refine op_cat pins s σ H _ _ v u Q I rx ry ⟨p, p2, vs, us, rfl, rfl, gh _ _ e1, gh _ _ e2, by rw [q1.len, q2.len]; exact sz_le hl, fun q hq => ?_⟩
      exact k _ _ _ (Stp.own gh hq) (relO.newL gh hq (by rw [List.length_append]; exact sz_le hl) (q1.append q2))
    · cases hg
  · cases hg
def slO (d : D) (lo hi : Option Int) : Option OT := match d with
  | .lst xs => some (.lst ((cutL xs lo hi).map .d))
  | _ => none
def sliO (fa : En → Res D) (fl fh : En → Res (Option Int)) (ρ : En) : Res OT := (fa ρ).bind fun d => (fl ρ).bind fun lo => (fh ρ).bind fun hi => ofO (slO d lo hi)
theorem slO_ok : SlR X (fun x lo hi H Q => ∃ G d c, Same G H ∧ R X.K X.mg G d x ∧ slO d lo hi = some c ∧ ∀ v G' H', Stp G H G' H' → relO X.K X.mg H G' H' c v → Q v H') := by
  intro pins s σ H x v vl vu lo hi sl Q I rx hs pl pu ⟨G, d, c, gh, r, hg, k⟩
  refine sl_list pins s σ H x v vl vu lo hi sl Q I rx hs pl pu ?_
  unfold slO at hg
  split at hg
  · cases hg
    obtain ⟨p, vs, rfl, l, e1, q1⟩ := r.lst
    exact ⟨p, vs, rfl, SqL.of (gh _ _ e1), fun q hq => k _ _ _ (Stp.own gh hq) (relO.newL gh hq (Nat.le_trans (cutL_length _ _ _) l) q1.cut)⟩
  · cases hg
theorem EO.sli {lo hi : Option Expr} {fl fh : En → Res (Option Int)} (ha : EF X W a fa) (hl : EP' X W lo fl) (hh : EP' X W hi fh) : EO X W (.Subscript a (.Slice lo hi none p2) pos) (sliO fa fl fh) := ⟨fun B => PE.mono (pe_slice slO_ok (ha.run B) (hl.run B) (hh.run B)) fun σ H Q ⟨G, ρ, r, h⟩ =>
  lift.next (rel := relD X.K X.mg) (g := fun d ρ => (fl ρ).bind fun lo => (fh ρ).bind fun hi => ofO (slO d lo hi)) later_O r h fun d x G1 H1 r1 s1 q1 w1 =>
    lift.next (rel := fun _ _ _ a b => b = a) (g := fun lo ρ => (fh ρ).bind fun hi => ofO (slO d lo hi)) later_O r1 w1 fun lo lo' G2 H2 r2 s2 q2 w2 =>
      lift.next (rel := fun _ _ _ a b => b = a) (g := fun hi _ => ofO (slO d lo hi)) later_O r2 w2 fun hi hi' G3 H3 r3 s3 q3 w3 => by
        cases q2; cases q3
        cases hg : slO d lo hi with
        | none => rw [hg] at w3; exact w3.elim
        | some c => rw [hg] at w3; exact ⟨G3, d, c, r3.gh, R.mono (s2.gg.trans s3.gg) q1, hg, w3⟩⟩
end
end FL
/-! The functional layer, part W: sorted of a list of alike data. -/
namespace FL
open PySem PySem.Spec PyProof.Rows L2
def alikeP (ds : List D) : Bool := ds.all fun a => ds.all fun b => PySem.W.alike (py a) (py b)
def isTp : D → Bool
  | .tup (_ :: _) => true
  | _ => false
def noTp : D → Bool
  | .non => false
  | .tup _ => false
  | _ => true
def sortP : List D → Option OT
  | [.lst ds] => if (ds.all (plain 60) && (alikeP ds && (ds.all isTp || ds.all noTp))) = true then some (.lst ((ds.mergeSort (PySem.W.dataLe false py)).map .d)) else none
  | _ => none
section
variable {X : Cx} {pins : List (Addr × Obj)} {σ : L2.St} {H G : Hp} {s : Shared}
def relV (X : Cx) (G : Hp) (u : Value) (d : D) : Prop := ∃ x, RelV x u ∧ R X.K X.mg G d x
theorem each_of : ∀ {ds : List D} {xs : List V} {us : List Value}, Rs X.K X.mg G ds xs → Vals xs us → PySem.W.EachIs (relV X G) us ds
  | [], _, _, h, r => by
    cases (show _ = [] from h)
    cases r
    exact .nil
  | d :: ds, _, _, ⟨x, xs, e, h, t⟩, r => by
    subst e
    cases r with
    | cons rx rr => exact .cons ⟨x, rx, h⟩ (each_of t rr)
theorem of_each : ∀ {ds : List D} {us : List Value}, PySem.W.EachIs (relV X G) us ds → ∃ xs, Rs X.K X.mg G ds xs ∧ Vals xs us
  | [], _, h => by cases h; exact ⟨[], rfl, .nil⟩
  | d :: ds, _, h => by
    cases h with
    | cons h t =>
      obtain ⟨x, rx, hx⟩ := h
      obtain ⟨xs, h1, h2⟩ := of_each t
      exact ⟨x :: xs, Rs.cons hx h1, .cons rx h2⟩
theorem each_reads (I : Inv X pins σ H s) (gh : Same G H) {n : Nat} : ∀ {ds : List D} {us : List Value}, (∀ d ∈ ds, plain n d = true) → PySem.W.EachIs (relV X G) us ds → PySem.W.EachIs (fun v b => ∃ as, Reads s.heap v (py b) as) us ds
  | [], _, _, h => by cases h; exact .nil
  | d :: ds, _, hp, h => by
    cases h with
    | cons h t =>
      obtain ⟨x, rx, hx⟩ := h
      exact .cons (Dp.reads I (py d) x _ (py_dp gh n d x (hp d List.mem_cons_self) hx) rx) (each_reads I gh (fun e he => hp e (List.mem_cons_of_mem _ he)) t)
theorem depth_each {n : Nat} : ∀ {ds : List D} {us : List Value}, (∀ d ∈ ds, plain n d = true) → PySem.W.EachIs (relV X G) us ds → ∀ d ∈ ds, (py d).depth ≤ n
  | [], _, _, _, d, hd => by cases hd
  | e :: ds, _, hp, h, d, hd => by
    cases h with
    | cons h t =>
      rcases List.mem_cons.mp hd with rfl | hd
      · obtain ⟨x, rx, hx⟩ := h
        exact (py_lay n d x (hp d List.mem_cons_self) hx).2
      · exact depth_each (fun e he => hp e (List.mem_cons_of_mem _ he)) t d hd
theorem sortedP_ok (hu : X.A.units + 64 < cLine) : CallO X (.builtin "sorted") sortP := by
  rintro pins s σ H xs us Q I r ⟨G, ds, t, gh, q, hg, k⟩
  unfold sortP at hg
  split at hg
  · rename_i ds
    split at hg
    · rename_i hc
      cases hg
      simp only [Bool.and_eq_true, Bool.or_eq_true] at hc
      obtain ⟨h1, h2, h3⟩ := hc
      have hp : ∀ d ∈ ds, plain 60 d = true := List.all_eq_true.mp h1
      obtain ⟨v, rfl, q0⟩ := q.one
      obtain ⟨p, vs, rfl, l, e1, q1⟩ := R.lst q0
      obtain ⟨u, rfl, ru⟩ := vals1 r
      obtain rfl : u = Value.ref p := ru
      obtain ⟨its, rv, pl, hz⟩ := I.list (SqL.of (gh _ _ e1))
      have ea := each_of q1 rv
      have hn : H (s.heap.objs.size + 1) = none := I.hok.fresh (Nat.le_succ _)
      refine PySem.W.sorted_data (R := relV X G) (enc := py) pl.isList ea (each_reads I gh hp ea) ?_ ?_ l (fun d hd => ?_) fun out hlen ho => ?_
      · intro a ha b hb
        obtain ⟨x, hx, rfl⟩ := List.mem_map.mp ha
        obtain ⟨y, hy, rfl⟩ := List.mem_map.mp hb
        exact List.all_eq_true.mp (List.all_eq_true.mp h2 x hx) y hy
      · rcases h3 with h3 | h3
        · refine .inl fun d hd => ?_
          obtain ⟨x, hx, rfl⟩ := List.mem_map.mp hd
          have := List.all_eq_true.mp h3 x hx
          unfold isTp at this
          split at this
          · exact ⟨_, _, rfl⟩
          · cases this
        · refine .inr fun d hd => ?_
          obtain ⟨x, hx, rfl⟩ := List.mem_map.mp hd
          have := List.all_eq_true.mp h3 x hx
          have hpx := hp x hx
          cases x <;> first | (simp [noTp] at this; done) | (simp [plain] at hpx; done) | exact ⟨(by simp [py]), (by simp [py])⟩
      · have := depth_each hp ea d hd
        omega
      · obtain ⟨ws, w1, w2⟩ := of_each ho
        have hl : ws.length = ds.length := by rw [w1.len]; exact List.length_mergeSort ..
        refine ⟨.ref (s.heap.objs.size + 1), upd H (s.heap.objs.size + 1) (.lst ws), I.laid (t' := s.toks) (fun b o e => sortedAll_old e) (Nat.le_succ _) ⟨by rw [hl]; exact l, out, _, w2, sortedAll_at s.heap its out.toArray |>.choose_spec⟩, rfl, ?_⟩
        exact k _ _ _ (Stp.own gh hn) (relO.newL gh hn (by rw [← w1.len, hl]; exact l) w1)
    · cases hg
  · cases hg
end
end FL
/-! The functional layer, part X: max and min of a list of ints. -/
namespace FL
open PySem PySem.Spec PyProof.Rows L2
def maxN : List D → Option D
  | [.lst ds] => match intsOf ds with
    | some (n :: ns) => some (.int (ns.foldl max n))
    | _ => none
  | xs => max2 xs
def minN : List D → Option D
  | [.lst ds] => match intsOf ds with
    | some (n :: ns) => some (.int (ns.foldl min n))
    | _ => none
  | xs => min2 xs
theorem foldl_max_ge : ∀ (ns : List Int) (n : Int), n ≤ ns.foldl max n ∧ (∀ a ∈ ns, a ≤ ns.foldl max n) ∧ ns.foldl max n ∈ n :: ns
  | [], n => ⟨Int.le_refl _, (fun _ h => by cases h), List.mem_cons_self⟩
  | b :: ns, n => by
    obtain ⟨h1, h2, h3⟩ := foldl_max_ge ns (max n b)
    rw [List.foldl_cons]
    refine ⟨by omega, fun a ha => ?_, ?_⟩
    · rcases List.mem_cons.mp ha with rfl | ha
      · omega
      · exact h2 a ha
    · rcases List.mem_cons.mp h3 with e | h3
      · rw [e]
        rcases Int.le_total n b with z | z
        · rw [Int.max_eq_right z]; simp
        · rw [Int.max_eq_left z]; simp
      · simp [h3]
theorem foldl_min_le : ∀ (ns : List Int) (n : Int), ns.foldl min n ≤ n ∧ (∀ a ∈ ns, ns.foldl min n ≤ a) ∧ ns.foldl min n ∈ n :: ns
  | [], n => ⟨Int.le_refl _, (fun _ h => by cases h), List.mem_cons_self⟩
  | b :: ns, n => by
    obtain ⟨h1, h2, h3⟩ := foldl_min_le ns (min n b)
    rw [List.foldl_cons]
    refine ⟨by omega, fun a ha => ?_, ?_⟩
    · rcases List.mem_cons.mp ha with rfl | ha
      · omega
      · exact h2 a ha
    · rcases List.mem_cons.mp h3 with e | h3
      · rw [e]
        rcases Int.le_total n b with z | z
        · rw [Int.min_eq_left z]; simp
        · rw [Int.min_eq_right z]; simp
      · simp [h3]
section
variable {X : Cx}
theorem maxN_ok (hc : X.calm = true) : CallD X (.builtin "max") maxN := by
  rintro pins s σ H xs us Q I r ⟨G, ds, c, gh, q, hg, k⟩
  unfold maxN at hg
  split at hg
  · rename_i ds
    split at hg
    · rename_i n ns hi
      cases hg
      obtain ⟨v, rfl, q0⟩ := q.one
      obtain ⟨p, vs, rfl, _, e1, q1⟩ := R.lst q0
      obtain ⟨h1, h2, h3⟩ := foldl_max_ge ns n
      refine cr_max hc pins s σ H _ us Q I r ⟨p, n :: ns, rfl, by rw [← ints_ok q1 hi]; exact SqL.of (gh _ _ e1), by simp, fun m m1 m2 => ?_⟩
      have a1 := m2 _ h3
      have a2 : m ≤ ns.foldl max n := by
        rcases List.mem_cons.mp m1 with rfl | m1
        · exact h1
        · exact h2 _ m1
      obtain rfl : m = ns.foldl max n := by omega
      exact k _ _ _ (Stp.refl gh) rfl
    · cases hg
  · exact max2_ok hc pins s σ H xs us Q I r ⟨G, _, c, gh, q, hg, k⟩
theorem minN_ok (hc : X.calm = true) : CallD X (.builtin "min") minN := by
  rintro pins s σ H xs us Q I r ⟨G, ds, c, gh, q, hg, k⟩
  unfold minN at hg
  split at hg
  · rename_i ds
    split at hg
    · rename_i n ns hi
      cases hg
      obtain ⟨v, rfl, q0⟩ := q.one
      obtain ⟨p, vs, rfl, _, e1, q1⟩ := R.lst q0
      obtain ⟨h1, h2, h3⟩ := foldl_min_le ns n
      refine cr_min hc pins s σ H _ us Q I r ⟨p, n :: ns, rfl, by rw [← ints_ok q1 hi]; exact SqL.of (gh _ _ e1), by simp, fun m m1 m2 => ?_⟩
      have a1 := m2 _ h3
      have a2 : ns.foldl min n ≤ m := by
        rcases List.mem_cons.mp m1 with rfl | m1
        · exact h1
        · exact h2 _ m1
      obtain rfl : m = ns.foldl min n := by omega
      exact k _ _ _ (Stp.refl gh) rfl
    · cases hg
  · exact min2_ok hc pins s σ H xs us Q I r ⟨G, _, c, gh, q, hg, k⟩
end
end FL
/-! The functional layer, part Y: max, min of alike data, default=. -/
namespace FL
open PySem PySem.Spec PyProof.Rows L2
mutual
theorem py_inj : ∀ (n : Nat) (d e : D), plain n d = true → plain n e = true → py d = py e → d = e
  | n, .lst xs, e, p, q, h => by
    cases e <;> first | (simp [plain] at q; done) | (simp [py] at h; done) | skip
    simp only [py, PyData.list.injEq] at h
    rw [pys_inj n xs _ (by simpa [plain] using p) (by simpa [plain] using q) h]
  | n, .tup xs, e, p, q, h => by
    cases e <;> first | (simp [plain] at q; done) | (simp [py] at h; done) | skip
    simp only [py, PyData.tuple.injEq] at h
    rw [pys_inj n xs _ (by simpa [plain] using p) (by simpa [plain] using q) h]
  | _, .non, e, p, q, h => by cases e <;> first | rfl | (simp [plain] at q; done) | (simp [py] at h; done)
  | _, .bl _, e, p, q, h => by cases e <;> first | (simp [plain] at q; done) | (simp [py] at h; done) | (simp only [py, PyData.bool.injEq] at h; rw [h])
  | _, .int _, e, p, q, h => by cases e <;> first | (simp [plain] at q; done) | (simp [py] at h; done) | (simp only [py, PyData.int.injEq] at h; rw [h])
  | _, .str _, e, p, q, h => by cases e <;> first | (simp [plain] at q; done) | (simp [py] at h; done) | (simp only [py, PyData.str.injEq] at h; rw [h])
  | _, .dK _ _, _, p, _, _ => by simp [plain] at p
  | _, .dT _ _, _, p, _, _ => by simp [plain] at p
  | _, .ins _ _ _, _, p, _, _ => by simp [plain] at p
  | _, .scr _, _, p, _, _ => by simp [plain] at p
  | _, .exn _, _, p, _, _ => by simp [plain] at p
theorem pys_inj : ∀ (n : Nat) (ds es : List D), plains n ds = true → plains n es = true → pys ds = pys es → ds = es
  | 0, _, _, p, _, _ => by simp [plains] at p
  | n + 1, [], es, p, q, h => by
    cases es with
    | nil => rfl
    | cons _ _ => simp [pys] at h
  | n + 1, d :: ds, [], p, q, h => by simp [pys] at h
  | n + 1, d :: ds, e :: es, p, q, h => by
    simp only [plains, Bool.and_eq_true] at p q
    simp only [pys, List.cons.injEq] at h
    rw [py_inj n d e p.1 q.1 h.1, pys_inj (n + 1) ds es p.2 q.2 h.2]
end
def minP (x : D) (xs : List D) : D := xs.foldl (fun a y => if PySem.W.dataLt (py y) (py a) = true then y else a) x
def maxP (x : D) (xs : List D) : D := xs.foldl (fun a y => if PySem.W.dataLt (py a) (py y) = true then y else a) x
def noNon : D → Bool
  | .non => false
  | _ => true
def allAl (ds : List D) : Bool := ds.all (plain 60) && (alikeP ds && ds.all noNon)
theorem plainsA {n : Nat} : ∀ {ds : List D}, ds.all (plain n) = true → plains (n + 1) ds = true
  | [], _ => rfl
  | d :: ds, h => by
    rw [List.all_cons, Bool.and_eq_true] at h
    rw [plains, h.1, plainsA h.2]; rfl
theorem pys_map : ∀ ds : List D, pys ds = ds.map py
  | [] => rfl
  | d :: ds => by rw [pys, pys_map ds]; rfl
theorem minP_py : ∀ (xs : List D) (x : D), py (minP x xs) = PySem.W.minD (py x) (xs.map py)
  | [], x => rfl
  | y :: ys, x => by
    unfold minP PySem.W.minD
    rw [List.foldl_cons, List.map_cons, List.foldl_cons]
    have := minP_py ys (if PySem.W.dataLt (py y) (py x) = true then y else x)
    unfold minP PySem.W.minD at this
    rw [this]
    congr 1
    split <;> rfl
theorem maxP_py : ∀ (xs : List D) (x : D), py (maxP x xs) = PySem.W.maxD (py x) (xs.map py)
  | [], x => rfl
  | y :: ys, x => by
    unfold maxP PySem.W.maxD
    rw [List.foldl_cons, List.map_cons, List.foldl_cons]
    have := maxP_py ys (if PySem.W.dataLt (py x) (py y) = true then y else x)
    unfold maxP PySem.W.maxD at this
    rw [this]
    congr 1
    split <;> rfl
theorem minP_mem : ∀ (xs : List D) (x : D), minP x xs ∈ x :: xs
  | [], x => List.mem_singleton.mpr rfl
  | y :: ys, x => by
    have := minP_mem ys (if PySem.W.dataLt (py y) (py x) = true then y else x)
    unfold minP at this ⊢
    rw [List.foldl_cons]
    rcases List.mem_cons.mp this with h | h
    · rw [h]; split
      · exact List.mem_cons_of_mem _ List.mem_cons_self
      · exact List.mem_cons_self
    · exact List.mem_cons_of_mem _ (List.mem_cons_of_mem _ h)
theorem maxP_mem : ∀ (xs : List D) (x : D), maxP x xs ∈ x :: xs
  | [], x => List.mem_singleton.mpr rfl
  | y :: ys, x => by
    have := maxP_mem ys (if PySem.W.dataLt (py x) (py y) = true then y else x)
    unfold maxP at this ⊢
    rw [List.foldl_cons]
    rcases List.mem_cons.mp this with h | h
    · rw [h]; split
      · exact List.mem_cons_of_mem _ List.mem_cons_self
      · exact List.mem_cons_self
    · exact List.mem_cons_of_mem _ (List.mem_cons_of_mem _ h)
/-- max, min of a list of alike data -/
def maxA : List D → Option D
  | [.lst (x :: xs)] => if allAl (x :: xs) = true then some (maxP x xs) else none
  | _ => none
def minA : List D → Option D
  | [.lst (x :: xs)] => if allAl (x :: xs) = true then some (minP x xs) else none
  | _ => none
/-- .. with default= -/
def dfl (g : List D → Option D) (x y : D) : Option D := match x with
  | .lst [] => some y
  | .lst (a :: as) => g [.lst (a :: as)]
  | _ => none
section
variable {X : Cx} {W : WW} {pins : List (Addr × Obj)} {σ : L2.St} {H G : Hp} {s : Shared}
theorem reads_of (I : Inv X pins σ H s) (gh : Same G H) {ds : List D} {p : Addr} {vs : List V} (e1 : G p = some (.lst vs)) (q : Rs X.K X.mg G ds vs) (ha : allAl ds = true) : ∃ its as, s.heap.IsList p its ∧ Vals vs its.toList ∧ ReadsAll s.heap its.toList (ds.map py) as ∧ PySem.W.AlikeAll (ds.map py) ∧ PyData.depthAll (ds.map py) + 1 ≤ 61 := by
  unfold allAl at ha
  simp only [Bool.and_eq_true] at ha
  obtain ⟨h1, h2, h3⟩ := ha
  have hp : plains 61 ds = true := plainsA h1
  obtain ⟨its, rv, pl, hz⟩ := I.list (SqL.of (gh _ _ e1))
  obtain ⟨as, hr⟩ := Dp.readsAll I _ _ _ (pys_dp gh 61 ds vs hp q) rv
  rw [pys_map] at hr
  refine ⟨its.toArray, as, pl.isList, rv, hr, ⟨fun x hx y hy => ?_, fun x hx => ?_⟩, ?_⟩
  · obtain ⟨d, hd, rfl⟩ := List.mem_map.mp hx
    obtain ⟨e, he, rfl⟩ := List.mem_map.mp hy
    exact List.all_eq_true.mp (List.all_eq_true.mp h2 d hd) e he
  · obtain ⟨d, hd, rfl⟩ := List.mem_map.mp hx
    have a := List.all_eq_true.mp h3 d hd
    have b := List.all_eq_true.mp h1 d hd
    cases d <;> first | (simp [noNon] at a; done) | (simp [plain] at b; done) | simp [py]
  · have := (pys_lay 61 ds vs hp q).2
    rw [pys_map] at this
    omega
theorem Vals.at' {vs : List V} {us : List Value} (r : Vals vs us) {i : Nat} {v : Value} (h : us[i]? = some v) : ∃ x, vs[i]? = some x ∧ RelV x v := by
  induction r generalizing i with
  | nil => simp at h
  | cons a t ih =>
    cases i with
    | zero => simp at h; subst h; exact ⟨_, rfl, a⟩
    | succ i => simp at h; obtain ⟨x, h1, h2⟩ := ih h; exact ⟨x, by simpa using h1, h2⟩
/-- the item that comes -/
theorem item_of (gh : Same G H) {ds : List D} {vs : List V} {its : Array Value} {i : Nat} {v : Value} {h' : Heap} {bs as : List Addr} {c : D} (q : Rs X.K X.mg G ds vs) (rv : Vals vs its.toList) (hr : ReadsAll s.heap its.toList (ds.map py) as) (ha : allAl ds = true) (hc : c ∈ ds) (hi : its[i]? = some v) (r : Reads h' v (py c) bs) (k : ∀ b o, s.heap.get? b = some o → h'.get? b = some o) : ∃ x, RelV x v ∧ R X.K X.mg G c x := by
  have hi2 : its.toList[i]? = some v := by rw [Array.getElem?_toList]; exact hi
  obtain ⟨x, hx, rx⟩ := Vals.at' rv hi2
  have hlt : i < ds.length := by
    have := (List.getElem?_eq_some_iff.mp hx).1
    rwa [q.len] at this
  obtain ⟨x', hx', hR⟩ := q.get (List.getElem?_eq_getElem hlt)
  rw [hx] at hx'
  cases hx'
  refine ⟨x, rx, ?_⟩
  obtain ⟨cs, r2, _⟩ := PySem.W.readsAll_at hr i v hi2
  have e1 : (ds.map py).getD i .none = py ds[i] := by
    rw [List.getD_eq_getElem?_getD, List.getElem?_map, List.getElem?_eq_getElem hlt]; rfl
  rw [e1] at r2
  have hp := (Bool.and_eq_true _ _).mp (show (ds.all (plain 60) && (alikeP ds && ds.all noNon)) = true from ha)
  have p1 := List.all_eq_true.mp hp.1 _ (List.getElem_mem hlt)
  have p2 := List.all_eq_true.mp hp.1 _ hc
  have al := List.all_eq_true.mp (List.all_eq_true.mp ((Bool.and_eq_true _ _).mp hp.2).1 _ (List.getElem_mem hlt)) _ hc
  have e2 := PySem.W.alike_unique (py ds[i]) (py c) v cs bs al (PySem.W.reads_keeps k r2) r
  rw [py_inj 60 _ _ p2 p1 e2.symm]
  exact hR
theorem maxA_ok (hu : X.A.units + 64 < cLine) (hc : X.calm = true) : CallD X (.builtin "max") maxA := by
  rintro pins s σ H xs us Q I r ⟨G, ds, c, gh, q, hg, k⟩
  unfold maxA at hg
  split at hg
  · rename_i x xs
    split at hg
    · rename_i ha
      cases hg
      obtain ⟨v, rfl, q0⟩ := q.one
      obtain ⟨p, vs, rfl, _, e1, q1⟩ := R.lst q0
      obtain ⟨u, rfl, ru⟩ := vals1 r
      obtain rfl : u = Value.ref p := ru
      obtain ⟨its, as, il, rv, hr, al, hd⟩ := reads_of I gh e1 q1 ha
      refine PySem.W.max_list_data (I.ok.hd hc) il hr al (by rw [← List.map_cons]; omega) fun i v h' tk bs hi rr kk => ?_
      rw [← maxP_py] at rr
      obtain ⟨z, rz, hR⟩ := item_of gh q1 rv hr ha (maxP_mem xs x) hi rr kk
      exact ⟨z, H, I.kept kk, rz, k _ _ _ (Stp.refl gh) hR⟩
    · cases hg
  · cases hg
theorem minA_ok (hu : X.A.units + 64 < cLine) (hc : X.calm = true) : CallD X (.builtin "min") minA := by
  rintro pins s σ H xs us Q I r ⟨G, ds, c, gh, q, hg, k⟩
  unfold minA at hg
  split at hg
  · rename_i x xs
    split at hg
    · rename_i ha
      cases hg
      obtain ⟨v, rfl, q0⟩ := q.one
      obtain ⟨p, vs, rfl, _, e1, q1⟩ := R.lst q0
      obtain ⟨u, rfl, ru⟩ := vals1 r
      obtain rfl : u = Value.ref p := ru
      obtain ⟨its, as, il, rv, hr, al, hd⟩ := reads_of I gh e1 q1 ha
      refine PySem.W.min_list_data (I.ok.hd hc) il hr al (by rw [← List.map_cons]; omega) fun i v h' tk bs hi rr kk => ?_
      rw [← minP_py] at rr
      obtain ⟨z, rz, hR⟩ := item_of gh q1 rv hr ha (minP_mem xs x) hi rr kk
      exact ⟨z, H, I.kept kk, rz, k _ _ _ (Stp.refl gh) hR⟩
    · cases hg
  · cases hg
variable {a b : Expr} {fa fb : En → Res D} {p pos kpos : Pos}
theorem dfl_ok {id : String} {g : List D → Option D} (hg : CallD X (.builtin id) g) (h0 : ∀ (l : Addr) (its : Array Value) (d : Value) (s : Shared) (Q E : Value → Shared → Prop), X.A.handled = none → s.heap.IsList l its → its.toList = [] → (∀ h' tk, (∀ b o, s.heap.get? b = some o → h'.get? b = some o) → Q d { s with heap := h', toks := tk }) → wpAny (model X.prog X.w) X.A (PySem.call (.builtin id) [Value.ref l] [(("default" : Str), d)]) Q E s)
    (h1 : ∀ (pins : List (Addr × Obj)) (s : Shared) (σ : L2.St) (H G : Hp) (l : Addr) (d : Value) (x c : D) (xs : List D) (Q : VK), Inv X pins σ H s → Same G H → R X.K X.mg G (.lst (x :: xs)) (V.ref l) → g [.lst (x :: xs)] = some c → (∀ v G' H', Stp G H G' H' → R X.K X.mg G' c v → Q v H') → wpAny (model X.prog X.w) X.A (PySem.call (.builtin id) [Value.ref l] [(("default" : Str), d)]) (EP X pins σ Q) X.xe s) (hc : X.calm = true) :
    CallRK X (.builtin id) ["default"] fun xs zs H Q => ∃ G d e c, Same G H ∧ Rs X.K X.mg G [d] xs ∧ Rs X.K X.mg G [e] zs ∧ dfl g d e = some c ∧ ∀ v G' H', Stp G H G' H' → R X.K X.mg G' c v → Q v H' := by
  rintro pins s σ H xs zs us ws Q I r r2 ⟨G, d, e, c, gh, q, q2, hd, k⟩
  obtain ⟨v, rfl, q0⟩ := q.one
  obtain ⟨y, rfl, q1⟩ := q2.one
  obtain ⟨u, rfl, ru⟩ := vals1 r
  obtain ⟨z, rfl, rz⟩ := vals1 r2
  unfold dfl at hd
  split at hd
  · cases hd
    obtain ⟨l, vs, rfl, _, e1, q3⟩ := R.lst q0
    obtain rfl : u = Value.ref l := ru
    cases (show vs = [] from q3)
    obtain ⟨its, rv, pl, _⟩ := I.list (SqL.of (gh _ _ e1))
    cases rv
    exact h0 l _ z s _ _ (I.ok.hd hc) pl.isList rfl fun h' tk kk => ⟨y, H, I.kept kk, rz, k _ _ _ (Stp.refl gh) q1⟩
  · obtain ⟨l, vs, rfl, e0, e1, q3⟩ := R.lst q0
    obtain rfl : u = Value.ref l := ru
    exact h1 pins s σ H G l z _ c _ Q I gh q0 hd k
  · cases hd
theorem maxDf_ok (hu : X.A.units + 64 < cLine) (hc : X.calm = true) : CallRK X (.builtin "max") ["default"] fun xs zs H Q => ∃ G d e c, Same G H ∧ Rs X.K X.mg G [d] xs ∧ Rs X.K X.mg G [e] zs ∧ dfl maxA d e = some c ∧ ∀ v G' H', Stp G H G' H' → R X.K X.mg G' c v → Q v H' := by
  refine dfl_ok (maxA_ok hu hc) (fun l its d s Q E hh hl hn q => ?_) (fun pins s σ H G l d x c xs Q I gh r hg k => ?_) hc
  · refine PySem.W.max_list_default (xs := []) (as := []) hh hl (by rw [hn]; exact .nil) ⟨fun x hx => (nomatch hx), fun x hx => (nomatch hx)⟩ (by show X.A.units + 1 + 0 < cLine; omega) (fun _ => q) fun y ys i v h' tk bs e => nomatch e
  · unfold maxA at hg
    dsimp only at hg
    split at hg
    · rename_i ha
      cases hg
      obtain ⟨p, vs, e, _, e1, q1⟩ := R.lst r
      cases e
      obtain ⟨its, as, il, rv, hr, al, hd⟩ := reads_of I gh e1 q1 ha
      refine PySem.W.max_list_default (I.ok.hd hc) il hr al (by omega) (fun z => nomatch z) fun y ys i v h' tk bs e hi rr kk => ?_
      cases e
      rw [← maxP_py] at rr
      obtain ⟨z, rz, hR⟩ := item_of gh q1 rv hr ha (maxP_mem xs x) hi rr kk
      exact ⟨z, H, I.kept kk, rz, k _ _ _ (Stp.refl gh) hR⟩
    · cases hg
theorem EF.maxDf (hu : X.A.units + 64 < cLine) (hc : X.calm = true) (hm : X.mg "max" = none) (ha : EF X W a fa) (hb : EF X W b fb) (hg : Gl X "max" := by rfl)
    (hs : starEach [a] X.env = [(false, eval a X.env)] := by rfl)
    (he : backTo pos (starEach [a] X.env) = (false, eval a X.env) :: backTo pos (starEach [] X.env) := by rfl) (hpl : (backTo pos (starEach [a] X.env)).any (·.1) = false := by rfl)
    (hall : (backToKw pos (keywordEach [⟨some "default", b, kpos⟩] X.env)).all (·.1.isSome) = true := by rfl) (hnone : (backToKw pos (keywordEach [⟨some "default", b, kpos⟩] X.env)).any (·.1.isNone) = false := by rfl) (hks : (backToKw pos (keywordEach [⟨some "default", b, kpos⟩] X.env)).filterMap (·.1) = [("default" : Str)] := by rfl) :
    EF X W (.Call (.Name "max" p) [a] [⟨some "default", b, kpos⟩] pos) (op2 (dfl maxA) fa fb) := ⟨fun B => PE.mono (pe_callBK (maxDf_ok hu hc) hg hm (by decide +kernel) (pa_cons (ha.run B) pa_nil hs) (pk_cons (hb.run B) pk_nil) (by decide) (by decide) he hpl hall hnone hks) fun σ H Q h => by
  obtain ⟨G, ρ, r, h⟩ := h
  refine lift.next (rel := relD X.K X.mg) (g := fun x ρ => (fb ρ).bind fun y => FL.ofO (dfl maxA x y)) later_D r h fun d x G1 H1 r1 s1 q1 w1 => ?_
  refine lift.next (rel := relD X.K X.mg) (g := fun y _ => FL.ofO (dfl maxA d y)) later_D r1 w1 fun e y G2 H2 r2 s2 q2 w2 => ?_
  cases hg : dfl maxA d e with
  | none => rw [hg] at w2; exact w2.elim
  | some c =>
    rw [hg] at w2
    exact ⟨G2, d, e, c, r2.gh, ⟨x, [], rfl, R.mono s2.gg q1, rfl⟩, ⟨y, [], rfl, q2, rfl⟩, hg, w2⟩⟩
end
end FL
/-! The functional layer, part Z: methods of data; defs called in an except suite on the exception. -/
namespace FL
open PySem PySem.Spec PyProof.Rows L2
section
variable {X : Cx} {W : WW} {a b e o : Expr} {es : List Expr} {f : En → Res D} {fs : En → Res (List D)} {apos cpos pos : Pos} {T name id : String} {g : List D → Option D} {x : Str} {p : Pos}
/-! ### methods -/
def tyD : String → D → Bool
  | "list", .lst _ => true
  | "list", .scr _ => true
  | "str", .str _ => true
  | _, _ => false
theorem tyD_ok {K : PySem.W.Frag} {mg : Str → Option Value} {G H : Hp} {T : String} {d : D} {v : V} (gh : Same G H) (h : tyD T d = true) (r : R K mg G d v) : tyV K T v H := by
  unfold tyD at h
  split at h
  · obtain ⟨q, vs, rfl, _, e1, q1⟩ := r.lst
    exact .inl ⟨rfl, vs, SqL.of (gh _ _ e1)⟩
  · obtain ⟨q, rfl, h⟩ := r
    exact .inl ⟨rfl, _, gh.seq h⟩
  · obtain ⟨rfl, _, _⟩ := r
    rfl
  · cases h
def MtD (X : Cx) (id : String) (g : List D → Option D) : Prop := MtR X id fun x xs H Q => ∃ G d ds c, Same G H ∧ R X.K X.mg G d x ∧ Rs X.K X.mg G ds xs ∧ g (d :: ds) = some c ∧ ∀ v G' H', Stp G H G' H' → R X.K X.mg G' c v → Q v H'
def met (T : String) (g : List D → Option D) (f : En → Res D) (fs : En → Res (List D)) (ρ : En) : Res D := (f ρ).bind fun d => if tyD T d = true then (fs ρ).bind fun ds => ofO (g (d :: ds)) else .bad
theorem EF.meth (hm : MtD X id g) (pa : PlainAttrs T) (slot : Slot T name id) (hty : typeOf (.builtin id) = pure (.type "method_descriptor")) (ho : EF X W o f) (ha : EA X W (e :: es) fs)
    (hbase : attributeBase o name X.env (eval o X.env) = eval o X.env := by rfl)
    (hfew : ((backTo cpos (starEach (e :: es) X.env)).all (fun y => !y.1) && (backToKw cpos (keywordEach [] X.env)).all (fun y => y.1.isSome) && decide ((e :: es).length + ([] : List Keyword).length + (if ([] : List Keyword).isEmpty then 0 else 1) < 30)) = true := by rfl)
    (hline : (apos.endLine == cpos.line) = true := by rfl) (hs : starEach (e :: es) X.env = (false, eval e X.env) :: starEach es X.env := by rfl) (hp : (backTo cpos (starEach es X.env)).any (·.1) = false := by rfl) :
    EF X W (.Call (.Attribute o name apos) (e :: es) [] cpos) (met T g f fs) := ⟨fun B => PE.mono (pe_bm pa slot hty hm (ho.run B) (ha.run B) hbase hfew hline hs hp) fun σ H Q ⟨G, ρ, r, h⟩ => by
  unfold met at h
  refine lift.next (rel := relD X.K X.mg) (g := fun d ρ => if tyD T d = true then (fs ρ).bind fun ds => FL.ofO (g (d :: ds)) else .bad) later_D r h fun d v G1 H1 r1 s1 q1 w1 => ?_
  by_cases ht : tyD T d = true
  · rw [if_pos ht] at w1
    refine ⟨tyD_ok r1.gh ht q1, ?_⟩
    refine lift.next (rel := relL X.K X.mg) (g := fun ds _ => FL.ofO (g (d :: ds))) later_D r1 w1 fun ds vs G2 H2 r2 s2 q2 w2 => ?_
    cases hg : g (d :: ds) with
    | none => rw [hg] at w2; exact w2.elim
    | some c =>
      rw [hg] at w2
      exact ⟨G2, d, ds, c, r2.gh, R.mono s2.gg q1, q2, hg, w2⟩
  · rw [if_neg ht] at w1
    exact w1.elim⟩
/-! ### list.count, list.index of flat items -/
def cntL : List D → Option D
  | [.lst ds, d] => if flat d && ds.all flat then some (.int (ds.countP fun y => eqv y d)) else none
  | _ => none
def idxN (d : D) : List D → Option Nat
  | [] => none
  | y :: ys => if eqv y d = true then some 0 else (idxN d ys).map (· + 1)
def idxL : List D → Option D
  | [.lst ds, d] => if flat d && ds.all flat then (idxN d ds).map fun j => .int (j : Nat) else none
  | _ => none
theorem idxN_some {d : D} : ∀ {ds : List D} {j : Nat}, idxN d ds = some j → ∃ y, ds[j]? = some y ∧ eqv y d = true ∧ ∀ m z, m < j → ds[m]? = some z → eqv z d = false
  | [], _, h => nomatch h
  | y :: ys, j, h => by
    unfold idxN at h
    by_cases e : eqv y d = true
    · rw [if_pos e] at h
      cases h
      exact ⟨y, rfl, e, fun m z hm => absurd hm (Nat.not_lt_zero _)⟩
    · rw [if_neg e] at h
      obtain ⟨i, h1, rfl⟩ := Option.map_eq_some_iff.mp h
      obtain ⟨z, z1, z2, z3⟩ := idxN_some h1
      refine ⟨z, z1, z2, fun m w hm hw => ?_⟩
      cases m with
      | zero => cases hw; simpa using e
      | succ m => exact z3 m w (by omega) hw
theorem flats_V {K : PySem.W.Frag} {mg : Str → Option Value} {G : Hp} : ∀ {ds : List D} {vs : List V}, ds.all flat = true → Rs K mg G ds vs → vs.all flatV = true
  | [], [], _, _ => rfl
  | [], _ :: _, _, h => by obtain ⟨v, w, z, _⟩ := id h
  | d :: ds, vs, f, h => by
    obtain ⟨v, ws, rfl, q1, q2⟩ := id h
    rw [List.all_cons, Bool.and_eq_true] at f
    rw [List.all_cons, flat_V f.1 q1, flats_V f.2 q2]; rfl
theorem idx_ok : MtD X "list.index" idxL := by
  rintro pins s σ H x xs v us Q I rx rxs ⟨G, d, ds, c, gh, r1, r2, hg, k⟩
  unfold idxL at hg
  split at hg
  · rename_i ds' d' e
    cases e
    split at hg
    · rename_i hf
      rw [Bool.and_eq_true] at hf
      obtain ⟨j, h1, rfl⟩ := Option.map_eq_some_iff.mp hg
      obtain ⟨y, y1, y2, y3⟩ := idxN_some h1
      obtain ⟨q, vs, rfl, _, e1, q1⟩ := r1.lst
      obtain ⟨u, rfl, ru⟩ := r2.one
      obtain ⟨yv, yv1, yv2⟩ := q1.get y1
      have fy : flat y = true := List.all_eq_true.mp hf.2 y (List.mem_of_getElem? y1)
      refine mt_index pins s σ H _ _ v us Q I rx rxs ⟨q, vs, u, j, yv, rfl, rfl, SqL.of (gh _ _ e1), flat_V hf.1 ru, flats_V hf.2 q1, yv1, by rw [eqV_eqv fy hf.1 yv2 ru]; exact y2, fun m z hm hz => ?_, k _ _ _ (Stp.refl gh) rfl⟩
      have hl := q1.len
      have hml : m < ds'.length := by rw [← hl]; exact (List.getElem?_eq_some_iff.mp hz).1
      obtain ⟨zv, z1, z2⟩ := q1.get (List.getElem?_eq_getElem hml)
      rw [hz] at z1
      cases z1
      rw [eqV_eqv (List.all_eq_true.mp hf.2 _ (List.getElem_mem hml)) hf.1 z2 ru]
      exact y3 m _ hm (List.getElem?_eq_getElem hml)
    · cases hg
  · cases hg
theorem cnt_V {K : PySem.W.Frag} {mg : Str → Option Value} {G : Hp} {d : D} {u : V} (fd : flat d = true) (ru : R K mg G d u) : ∀ {ds : List D} {vs : List V} {ws : List Value}, ds.all flat = true → Rs K mg G ds vs → Vals vs ws → ws.countP (eqU u) = ds.countP fun y => eqv y d
  | [], [], [], _, _, _ => rfl
  | [], _ :: _, _, _, h, _ => by obtain ⟨v, w, z, _⟩ := id h
  | y :: ds, vs, ws, f, h, hv => by
    obtain ⟨v, vs', rfl, q1, q2⟩ := id h
    cases hv with
    | cons r t =>
      rw [List.all_cons, Bool.and_eq_true] at f
      rw [List.countP_cons, List.countP_cons, cnt_V fd ru f.2 q2 t, eqU_of r (flat_V f.1 q1), eqV_eqv f.1 fd q1 ru]
theorem cnt_ok : MtD X "list.count" cntL := by
  rintro pins s σ H x xs v us Q I rx rxs ⟨G, d, ds, c, gh, r1, r2, hg, k⟩
  unfold cntL at hg
  split at hg
  · rename_i ds' d' e
    cases e
    split at hg
    · rename_i hf
      rw [Bool.and_eq_true] at hf
      cases hg
      obtain ⟨q, vs, rfl, _, e1, q1⟩ := r1.lst
      obtain ⟨u, rfl, ru⟩ := r2.one
      cases rx
      obtain ⟨uu, rfl, ruu⟩ := rxs.one
      obtain ⟨items, rv, ⟨⟨oc, od, odt, osl⟩, n, hob, c1, c2, c3⟩, hln⟩ := I.list (SqL.of (gh _ _ e1))
      dsimp only at c1 c3
      subst c1 c3
      have fu := flat_V hf.1 ru
      have fvs := flats_V hf.2 q1
      refine call_meets PySem.F.slot_list_count ⟨_, hob, rfl⟩ PySem.F.entry_list_count (PySem.F.args_list_count_2 _ _) (SeqAt.list_countAt q items.toArray n od osl uu (eqU u)) ⟨hob, fun y hy => mem_eqAt ruu fu rv fvs y (by simpa using hy), ?_⟩
      refine ⟨.int (ds'.countP fun y => eqv y d'), H, I.tok _, ⟨s.toks, ?_⟩, k _ _ _ (Stp.refl gh) rfl⟩
      have ec := cnt_V hf.1 ru hf.2 q1 rv
      show Value.int ((items.toArray.toList.countP (eqU u) : Nat) : Int) s.toks = Value.int ((ds'.countP fun y => eqv y d' : Nat) : Int) s.toks
      rw [← ec]
    · cases hg
  · cases hg
end
/-! ### defs called in an except suite on what was caught -/
/-- what is known of what was caught -/
def Told (mg : Str → Option Value) (c : Str) (q : Addr × Obj) : Prop := ∃ C, mg c = some (.ref C) ∧ L2N.Zn (.ref C) none q.2 ∧ ∃ vs, q.2.data = .fields vs
section
variable {P : Program} {w : World} {K : PySem.W.Frag} {mg : Str → Option Value} {base : Heap}
/-- a def's promise there -/
structure HotFn (P : Program) (w : World) (K : PySem.W.Frag) (mg : Str → Option Value) (base : Heap) (k : Nat) (f : Addr) (fd : FuncData) (ps : List Str) (c : Str) (sp : Addr → Sp) : Prop where
  len : ∀ a vs H Q E, sp a vs H Q E → vs.length = ps.length
  run : ∀ (A : Around) (out : List Env) (s : Shared) (H : Hp) (ar : Args) (us : List Value) (vs : List V) (Q : VK) (E : XK) (q : Addr × Obj), L2H.RoomH k A → L2H.Hot1 A q → Told mg c q → L2H.PinOk out H s q → Env0 P w K mg base A out s H →
    BindsTo s fd ar (ps.zip us) → Vals vs us → sp q.1 vs H Q E → codeAny (model P w) A (.call (.ref f) ar) (CR CX0 out P w H s Q E) s
theorem hot0 {x qual : Str} {st : Stmt} {f : Addr} {fd : FuncData} {N ps : List Str} {k : Nat} {c : Str} {F : Addr → En → Flw} (Fn : Fun K x qual st f fd) (S : FnScope N ps (defScope st))
    (hb : ∀ (cdv : Value) (A : Around) (out : List Env) (s : Shared) (H : Hp) (E : XK) (q : Addr × Obj), L2H.RoomH k (A.deeper (envOfC qual (defScope st) s.heap.objs.size f cdv)) → Cau (L2H.cxH CX0 P w K mg base N qual (defScope st) f cdv A out s H E q) q.1 c →
      SS (L2H.cxH CX0 P w K mg base N qual (defScope st) f cdv A out s H E q) W0 [] (defBody st) (F q.1)) :
    HotFn P w K mg base (k + 1) f fd ps c (fun a => spP K mg False (run ps.length N.length (F a))) := by
  obtain ⟨oc, od, dk, doc, pm, an, cdv, ct, osl, rfl, lk, hcd⟩ := Fn.ex
  refine ⟨fun a vs H Q E h => spP_len h, fun A out s H ar us vs Q E q hr hot told hpin e0 hbi rv hsp => ?_⟩
  have hlen := spP_len hsp
  obtain ⟨G, ds, gh, rs, hm⟩ := hsp
  have kin : K.In s.heap := e0.mod.kin.keeps fun i o z => (e0.bs i o z).1
  have nolim : s.heap.NoLimit := e0.mod.nolimit.keeps fun i o z => (e0.bs i o z).1
  have kinds : ∀ y ∈ ps.zip us, (defScope st).names.lookup y.1 = some .local ∨ ((defScope st).names.lookup y.1 = some .cell ∧ ((cellsFrom (s.heap.objs.size + 1) (defScope st).names []).lookup y.1).isSome = true) := fun ⟨n, u⟩ hy =>
    (S.par n (List.of_mem_zip hy).1).imp id fun z => ⟨z, PySem.W.cellsFrom_some _ _ _ (.inl z)⟩
  refine codeAny_call_function hr.depth (kin _ _ lk) rfl S.co S.gen rfl (PySem.W.codeRec_of kin hcd) (hbi _ _ _ _ (wpAny_newFunctionEnv_cells S.kind kinds fun env he s1 x1 => ?_))
  subst he
  refine ⟨nolim.keeps x1.toInCall.keep, codeAny_func ?_⟩
  have I : Inv (L2H.cxH CX0 P w K mg base N qual (defScope st) f cdv A out s H E q) [] (L2.start N vs) H s1 := L2H.inv_startH S hpin e0 hlen rv x1
  obtain ⟨C, t1, t2, t3⟩ := told
  have body := hb cdv A out s H E q (hr.deeper _) ⟨q.2, C, List.mem_singleton.mpr rfl, t1, t2, t3⟩
  have hm' : match run ps.length N.length (F q.1) ds with
      | .ok t => ∀ v G' H', Stp G H G' H' → relO K mg H G' H' t v → Q v H'
      | .ex c => False ∧ ∀ G' H' cls dd, Stp G H G' H' → RX K mg G' H' c cls dd → (fun _ _ _ => False : XK) cls dd H'
      | .bad => False := by
    cases e : run ps.length N.length (F q.1) ds with
    | ok t => rw [e] at hm; exact hm
    | ex c => rw [e] at hm; exact hm.1.elim
    | bad => rw [e] at hm; exact hm
  have go := out_run (X := L2H.cxH CX0 P w K mg base N qual (defScope st) f cdv A out s H E q) (W := W0) (on := False) (a := ps.length) (E := fun _ _ _ => False) (fun z => z) (fun _ _ _ _ z => z) (by rw [← rs.len]; exact hlen) hm'
  refine wpAny_mono ((body.run ⟨H, G, []⟩ rfl).run [] s1 (L2.start N vs) H _ I ⟨G, args N.length ds, args_rep gh rs, go⟩) (fun fl s2 hs => ?_) fun _ _ z => z
  cases fl with
  | ret u =>
    obtain ⟨v, σ2, H2, J, r2, z⟩ := hs
    exact ⟨v, H2, J.os, J.bare, J.base, J.hok, r2, z⟩
  | next =>
    obtain ⟨σ2, H2, J, z⟩ := hs
    exact ⟨V.non, H2, J.os, J.bare, J.base, J.hok, rfl, z⟩
  | brk => exact hs.elim fun _ z => z.elim fun _ z => z.2.elim
  | cont => exact hs.elim fun _ z => z.elim fun _ z => z.2.elim
/-- a def that may be called there by its name -/
structure CalH (P : Program) (w : World) (K : PySem.W.Frag) (mg : Str → Option Value) (base : Heap) (x : Str) (k : Nat) (c : Str) (F : Addr → List D → Res OT) : Prop where
  ex : ∃ f fd ps, HotFn P w K mg base k f fd ps c (fun a => spP K mg False (F a)) ∧ mg x = some (.ref f) ∧ PySem.W.keepIn K (.ref f) = true ∧ Binds K fd ps []
end
section
variable {X : Cx} {W : WW} {e : Expr} {es : List Expr} {fs : En → Res (List D)} {x : Str} {k : Nat} {p pos : Pos} {F : Addr → List D → Res OT} {a : Addr} {c : Str}
theorem hot_pe {t : TA} (cl : CalH X.prog X.w X.K X.mg X.base x k c F) (hr : L2H.RoomH k X.A) (hh : X.A.handled = some (.ref a)) (cau : Cau X a c) (ha : PA X (e :: es) t) (hg : Gl X x) (hdb : (x == ("__debug__" : Str)) = false)
    (hs : starEach (e :: es) X.env = (false, eval e X.env) :: starEach es X.env) (hp : (backTo pos (starEach es X.env)).any (·.1) = false) : PE X (.Call (.Name x p) (e :: es) [] pos) (fun σ H Q => t σ H fun vs H1 => spP X.K X.mg False (F a) vs H1 Q fun _ _ _ => False) := by
  obtain ⟨f, fd, ps, hf, hm, hk, hbd⟩ := cl.ex
  obtain ⟨oe, C, c1, c2, c3, vs0, c4⟩ := cau.ex
  refine ⟨fun pins s σ H Q I h => wpAny_Call_Name_kw (ld_glob I hg hm (PySem.W.callWith_K (h₀ := X.base) I.ok.mod.kin hk (thn (ha.run pos pins s σ H _ I h) fun us s1 ⟨vs, H1, J, rv, sp⟩ => ⟨J.kIn, ?_⟩) hs hp) hdb)⟩
  have lenq : us.length = ps.length := by rw [← rv.length]; exact hf.len _ _ _ _ _ sp
  have bd := hbd s1 us J.kIn (by rw [List.append_nil]; exact lenq)
  rw [List.append_nil] at bd
  have pin := J.pin (a, oe) (List.mem_append_left _ c1)
  have nst : a ∉ frs X.stack := fun z => by
    rcases List.mem_cons.mp (J.stkSub a z) with z | z
    · exact pin.2.2.1 z
    · exact pin.2.2.2.1 z
  refine wpAny_call (codeAny_mono (hf.run X.A X.stack s1 H1 ⟨us, []⟩ us vs Q (fun _ _ _ => False) (a, oe) hr ⟨hh, vs0, c4, c3.2.2 vs0 c4⟩ ⟨C, c2, c3, vs0, c4⟩ ⟨pin.1, pin.2.1, nst, pin.2.2.2.2⟩ J.env0 bd rv sp) fun r s2 z => ?_)
  cases r with
  | error u => exact z.elim
  | ok fl =>
    cases fl with
    | ret u => exact J.after z
    | next => exact z.elim
    | brk => exact z.elim
    | cont => exact z.elim
theorem EO.hot (cl : CalH X.prog X.w X.K X.mg X.base x k c F) (hr : L2H.RoomH k X.A) (hh : X.A.handled = some (.ref a)) (cau : Cau X a c) (ha : EA X W (e :: es) fs) (hg : Gl X x := by rfl) (hdb : (x == ("__debug__" : Str)) = false := by decide)
    (hs : starEach (e :: es) X.env = (false, eval e X.env) :: starEach es X.env := by rfl) (hp : (backTo pos (starEach es X.env)).any (·.1) = false := by rfl) : EO X W (.Call (.Name x p) (e :: es) [] pos) (FL.call (nx0 (F a)) fs) := ⟨fun B => by
  refine PE.mono (hot_pe cl hr hh cau (ha.run B) hg hdb hs hp) fun σ H Q ⟨G, ρ, r, h⟩ => ?_
  refine lift.next (rel := relL X.K X.mg) (g := fun ds _ => nx0 (F a) ds) later_O r h fun ds vs G1 H1 r1 s1 q1 w1 => ⟨G1, ds, r1.gh, q1, ?_⟩
  unfold nx0 at w1
  cases e : F a ds with
  | ok t => rw [e] at w1; exact w1
  | ex y => rw [e] at w1; exact w1.elim
  | bad => rw [e] at w1; exact w1⟩
end
theorem hu64h {k : Nat} {A : Around} (r : L2H.RoomH k A) : A.units + 64 < cLine := by have := r.un; omega
/-- the room in a suite -/
theorem roomS {k : Nat} {A : Around} {h : Option Value} (r : Room k A) : L2H.RoomH k (A.mark h) := ⟨r.dp, r.un⟩
end FL
/-! The functional layer, part PA: parts of owned trees, paths. -/
namespace FL
open PySem PySem.Spec PyProof.Rows L2
theorem set_getElem_self_ {α : Type} {l : List α} {j : Nat} {x : α} (h : l[j]? = some x) : l.set j x = l := by
  apply List.ext_getElem?
  intro k
  rw [List.getElem?_set]
  split
  · rename_i e
    subst e
    have hl := (List.getElem?_eq_some_iff.mp h).1
    rw [if_pos hl, h]
  · rfl
/-- a tree's parts -/
def kids : OT → List OT
  | .d _ => []
  | .lst ts => ts
  | .tup ts => ts
  | .dK _ ts => ts
  | .dT _ ts => ts
  | .ins _ _ ts => ts
/-- .. others in their place -/
def OT.wk : OT → List OT → OT
  | .d x, _ => .d x
  | .lst _, us => .lst us
  | .tup _, us => .tup us
  | .dK ks _, us => .dK ks us
  | .dT ks _, us => .dT ks us
  | .ins C ns _, us => .ins C ns us
/-- the part at a path -/
def OT.sub : OT → List Nat → Option OT
  | t, [] => some t
  | t, j :: p => match (kids t)[j]? with
    | some u => OT.sub u p
    | none => none
/-- .. another one there -/
def OT.put : OT → List Nat → OT → OT
  | _, [], u => u
  | t, j :: p, u => match (kids t)[j]? with
    | some w => t.wk ((kids t).set j (OT.put w p u))
    | none => t
theorem kids_wk {t : OT} {us : List OT} (h : us.length = (kids t).length) : kids (t.wk us) = us := by
  cases t with
  | d x => cases us with
    | nil => rfl
    | cons a us => cases h
  | _ => rfl
theorem wk_wk (t : OT) (us ws : List OT) : (t.wk us).wk ws = t.wk ws := by cases t <;> rfl
theorem wk_kids (t : OT) : t.wk (kids t) = t := by cases t <;> rfl
theorem sub_put : ∀ {p : List Nat} {t u v : OT}, t.sub p = some u → (t.put p v).sub p = some v
  | [], t, u, v, _ => rfl
  | j :: p, t, u, v, h => by
    unfold OT.sub at h
    split at h
    · rename_i w hw
      have hl := (List.getElem?_eq_some_iff.mp hw).1
      unfold OT.put
      rw [hw]
      dsimp only
      unfold OT.sub
      rw [kids_wk (by rw [List.length_set]), List.getElem?_set_self hl]
      exact sub_put h
    · cases h
theorem put_sub : ∀ {p : List Nat} {t u : OT}, t.sub p = some u → t.put p u = t
  | [], t, u, h => by cases h; rfl
  | j :: p, t, u, h => by
    unfold OT.sub at h
    split at h
    · rename_i w hw
      unfold OT.put
      rw [hw]
      dsimp only
      rw [put_sub h, set_getElem_self_ hw, wk_kids]
    · cases h
theorem put_put : ∀ {p : List Nat} {t u v w : OT}, t.sub p = some u → (t.put p v).put p w = t.put p w
  | [], t, u, v, w, _ => rfl
  | j :: p, t, u, v, w, h => by
    unfold OT.sub at h
    split at h
    · rename_i x hx
      have hl := (List.getElem?_eq_some_iff.mp hx).1
      have e : ∀ v, t.put (j :: p) v = t.wk ((kids t).set j (x.put p v)) := fun v => by rw [OT.put, hx]
      rw [e v, e w, OT.put, kids_wk (by rw [List.length_set]), List.getElem?_set_self hl]
      dsimp only
      rw [put_put h, List.set_set, wk_wk]
    · cases h
theorem sub_app : ∀ {p q : List Nat} {o a : OT}, o.sub p = some a → o.sub (p ++ q) = a.sub q
  | [], q, o, a, h => by cases h; rfl
  | j :: p, q, o, a, h => by
    unfold OT.sub at h
    split at h
    · rename_i t ht
      rw [List.cons_append, OT.sub, ht]
      exact sub_app h
    · cases h
theorem put_app : ∀ {p q : List Nat} {o a u : OT}, o.sub p = some a → o.put (p ++ q) u = o.put p (a.put q u)
  | [], q, o, a, u, h => by cases h; rfl
  | j :: p, q, o, a, u, h => by
    unfold OT.sub at h
    split at h
    · rename_i t ht
      rw [List.cons_append, OT.put, OT.put, ht]
      dsimp only
      rw [put_app h]
    · cases h
/-- an object's parts -/
def kidsV : HO → List V
  | .lst vs => vs
  | .tup vs => vs
  | .dK kvs => kvs.map (·.2)
  | .dT kvs => kvs.map (·.2)
  | .ins _ _ fs => fs.map (·.2)
  | _ => []
/-- the value at a path -/
def walkV (H : Hp) : V → List Nat → Option V
  | v, [] => some v
  | .ref a, j :: p => match H a with
    | some o => match (kidsV o)[j]? with
      | some v => walkV H v p
      | none => none
    | none => none
  | _, _ :: _ => none
theorem walkV_mono {H H' : Hp} (h : Same H H') : ∀ {p : List Nat} {v w : V}, walkV H v p = some w → walkV H' v p = some w
  | [], _, _, e => e
  | j :: p, v, w, e => by
    cases v with
    | ref a =>
      unfold walkV at e ⊢
      split at e
      · rename_i o ha
        rw [h _ _ ha]
        dsimp only
        split at e
        · rename_i u hu
          exact walkV_mono h e
        · cases e
      · cases e
    | _ => cases e
theorem walkV_snocG {H : Hp} : ∀ {p : List Nat} {v : V} {b : Addr} {o : HO} {j : Nat} {w : V}, walkV H v p = some (.ref b) → H b = some o → (kidsV o)[j]? = some w → walkV H v (p ++ [j]) = some w
  | [], v, b, o, j, w, e, hb, hj => by
    cases e
    show walkV H (.ref b) [j] = _
    unfold walkV
    rw [hb]
    dsimp only
    rw [hj]; rfl
  | i :: p, v, b, o, j, w, e, hb, hj => by
    cases v with
    | ref a =>
      rw [List.cons_append]
      unfold walkV at e ⊢
      split at e
      · rename_i o' ha
        split at e
        · rename_i u hu
          exact walkV_snocG e hb hj
        · cases e
      · cases e
    | _ => cases e
theorem walkV_snoc {H : Hp} {p : List Nat} {v : V} {b : Addr} {vs : List V} {j : Nat} {w : V} (e : walkV H v p = some (.ref b)) (hb : H b = some (.lst vs) ∨ H b = some (.tup vs)) (hj : vs[j]? = some w) : walkV H v (p ++ [j]) = some w := by
  rcases hb with hb | hb
  · exact walkV_snocG e hb hj
  · exact walkV_snocG e hb hj
section
variable {K : PySem.W.Frag} {mg : Str → Option Value} {B : Bs} {G H : Hp} {σ : L2.St} {ρ : En}
/-- a tree's object -/
theorem RO.node {t : OT} {v : V} {fp : List Addr} (r : RO K mg G H t v fp) : (∃ d, t = .d d) ∨ ∃ a fs o, v = .ref a ∧ fp = a :: fs ∧ H a = some o ∧ ROs K mg G H (kids t) (kidsV o) fs ∧
    ∀ G' H' ts' fs', Same G G' → H' a = some o → ts'.length = (kids t).length → ROs K mg G' H' ts' (kidsV o) fs' → RO K mg G' H' (t.wk ts') v (a :: fs') := by
  have zz : ∀ {κ : Type} {ks : List κ} {us : List OT} {ws : List V} {fs : List Addr}, ks.length = us.length → ROs K mg G H us ws fs → (ks.zip ws).map (·.2) = ws := fun {κ ks us ws fs} l q => List.map_snd_zip (by rw [q.len, l]; exact Nat.le_refl _)
  cases t with
  | d x => exact .inl ⟨x, rfl⟩
  | lst ts =>
    obtain ⟨a, vs, fs, e1, e2, l, h, q⟩ := r
    exact .inr ⟨a, fs, _, e1, e2, h, q, fun G' H' ts' fs' g e l' q' => ⟨a, vs, fs', e1, rfl, by rw [l']; exact l, e, q'⟩⟩
  | tup ts =>
    obtain ⟨a, vs, fs, e1, e2, l, h, q⟩ := r
    exact .inr ⟨a, fs, _, e1, e2, h, q, fun G' H' ts' fs' g e l' q' => ⟨a, vs, fs', e1, rfl, by rw [l']; exact l, e, q'⟩⟩
  | dK ks ts =>
    obtain ⟨a, vs, fs, e1, e2, l, h, q⟩ := r
    have z := zz l q
    refine .inr ⟨a, fs, _, e1, e2, h, by show ROs K mg G H ts ((ks.zip vs).map (·.2)) fs; rw [z]; exact q, fun G' H' ts' fs' g e l' q' => ⟨a, vs, fs', e1, rfl, by rw [l']; exact l, e, ?_⟩⟩
    change ROs K mg G' H' ts' ((ks.zip vs).map (·.2)) fs' at q'
    rw [z] at q'; exact q'
  | dT ks ts =>
    obtain ⟨a, vs, fs, e1, e2, l, h, q⟩ := r
    have z := zz l q
    refine .inr ⟨a, fs, _, e1, e2, h, by show ROs K mg G H ts ((ks.zip vs).map (·.2)) fs; rw [z]; exact q, fun G' H' ts' fs' g e l' q' => ⟨a, vs, fs', e1, rfl, by rw [l']; exact l, e, ?_⟩⟩
    change ROs K mg G' H' ts' ((ks.zip vs).map (·.2)) fs' at q'
    rw [z] at q'; exact q'
  | ins C ns ts =>
    obtain ⟨a, ca, dx, vs, fs, e1, c, e2, l, h, q⟩ := r
    have z := zz l q
    refine .inr ⟨a, fs, _, e1, e2, h, by show ROs K mg G H ts ((ns.zip vs).map (·.2)) fs; rw [z]; exact q, fun G' H' ts' fs' g e l' q' => ⟨a, ca, dx, vs, fs', e1, c, rfl, by rw [l']; exact l, e, ?_⟩⟩
    change ROs K mg G' H' ts' ((ns.zip vs).map (·.2)) fs' at q'
    rw [z] at q'; exact q'
theorem set_self {α : Type} {l : List α} {j : Nat} {x : α} (h : l[j]? = some x) : l.set j x = l := set_getElem_self_ h
theorem RO.ctx : ∀ {p : List Nat} {t t' : OT} {v : V} {fp : List Addr}, RO K mg G H t v fp → t.sub p = some t' → ∃ v' g1 f' g2, walkV H v p = some v' ∧ fp = g1 ++ (f' ++ g2) ∧ RO K mg G H t' v' f' ∧
    ∀ G1 H1 t'' f'', Same G G1 → (∀ x, x ∈ g1 ∨ x ∈ g2 → H1 x = H x) → RO K mg G1 H1 t'' v' f'' → walkV H1 v p = some v' ∧ RO K mg G1 H1 (t.put p t'') v (g1 ++ (f'' ++ g2))
  | [], t, t', v, fp, r, e => by
    cases e
    exact ⟨v, [], fp, [], by unfold walkV; rfl, by simp, r, fun G1 H1 t'' f'' _ _ h => ⟨by unfold walkV; rfl, by rw [OT.put]; simpa using h⟩⟩
  | j :: p, t, t', v, fp, r, e => by
    unfold OT.sub at e
    split at e
    · rename_i u hu
      rcases r.node with ⟨d, rfl⟩ | ⟨a, fs, o, rfl, rfl, ha, ro, back⟩
      · cases hu
      · obtain ⟨w, f1, fj, f2, hw, rfl, rj, bk⟩ := ro.at hu
        obtain ⟨v', g1, f', g2, h1, rfl, h3, h4⟩ := RO.ctx rj e
        refine ⟨v', a :: (f1 ++ g1), f', g2 ++ f2, ?_, by simp, h3, fun G1 H1 t'' f'' gg fr h => ?_⟩
        · unfold walkV
          rw [ha]
          dsimp only
          rw [hw]; exact h1
        · have hp : t.put (j :: p) t'' = t.wk ((kids t).set j (u.put p t'')) := by rw [OT.put, hu]
          rw [hp]
          obtain ⟨q0, q⟩ := h4 G1 H1 t'' f'' gg (fun x hx => fr x (hx.elim (fun z => .inl (by simp [z])) fun z => .inr (by simp [z]))) h
          have q2 := bk G1 H1 _ w _ gg (fun x hx => fr x (hx.elim (fun z => .inl (by simp [z])) fun z => .inr (by simp [z]))) q
          rw [set_self hw] at q2
          have ha' : H1 a = some o := by rw [fr a (.inl (by simp))]; exact ha
          refine ⟨?_, ?_⟩
          · unfold walkV
            rw [ha']
            dsimp only
            rw [hw]; exact q0
          · have q3 := back G1 H1 _ _ gg ha' (by rw [List.length_set]) q2
            simpa using q3
    · cases e
/-- a part of a slot, and a value that is the environment's own: what the part may become -/
theorem RepV.path {i : Nat} {t0 u t : OT} {p : List Nat} {v : V} (r : RepV K mg B G H σ ρ t v) (e : ρ[i]? = some (some t0)) (es : t0.sub p = some u) : ∃ v0 w gu fv, σ[i]? = some (some v0) ∧ walkV H v0 p = some w ∧ RO K mg G H u w gu ∧ RO K mg G H t v fv ∧ (gu ++ fv).Nodup ∧
    ∀ b o u' fp', b ∈ gu → RO K mg G (upd H b o) u' w fp' → fp'.Nodup → (∀ x ∈ fp', x ∈ gu ∨ x ∈ fv) → Rep K mg B G (upd H b o) σ (ρ.set i (some (t0.put p u'))) := by
  obtain ⟨F, fv, f, rv, ndv, atv, djv⟩ := r.sl
  obtain ⟨v0, hv, hr⟩ := f.rep i _ e
  obtain ⟨w, g1, gu, g2, h1, h2, h3, h4⟩ := hr.ctx es
  have nd := f.nd i
  rw [h2] at nd
  obtain ⟨n1, n2, d1⟩ := List.nodup_append.mp nd
  obtain ⟨n3, n4, d2⟩ := List.nodup_append.mp n2
  refine ⟨v0, w, gu, fv, hv, h1, h3, rv, List.nodup_append.mpr ⟨n3, ndv, fun x hx y hy z => djv i y hy (by rw [h2, ← z]; simp [hx])⟩, fun b o u' fp' hb h nd' sub => put_core r.g r.len f e hv (by rw [h2]; simp [hb]) (h4 G (upd H b o) u' fp' (Same.refl _) (fun x hx => upd_ne fun z => ?_) h).2 ?_ fun x hx => ?_⟩
  · subst z
    rcases hx with hx | hx
    · exact d1 _ hx _ (List.mem_append_left _ hb) rfl
    · exact d2 _ hb _ hx rfl
  · refine List.nodup_append.mpr ⟨n1, List.nodup_append.mpr ⟨nd', n4, fun x hx y hy z => ?_⟩, fun x hx y hy z => ?_⟩
    · rcases sub x hx with hx | hx
      · exact d2 x hx y hy z
      · exact djv i x hx (by rw [h2, z]; simp [hy])
    · rcases List.mem_append.mp hy with hy | hy
      · rcases sub y hy with hy | hy
        · exact d1 x hx y (List.mem_append_left _ hy) z
        · exact djv i y hy (by rw [h2, ← z]; simp [hx])
      · exact d1 x hx y (List.mem_append_right _ hy) z
  · rw [h2]
    rcases List.mem_append.mp hx with hx | hx
    · exact .inl (List.mem_append_left _ hx)
    · rcases List.mem_append.mp hx with hx | hx
      · rcases sub x hx with hx | hx
        · exact .inl (by simp [hx])
        · obtain ⟨a1, a2, a3⟩ := atv x hx
          exact .inr ⟨a1, a2, a3, fun j => djv j x hx⟩
      · exact .inl (by simp [hx])
theorem Rep.sub {i : Nat} {t0 u : OT} {p : List Nat} (r : Rep K mg B G H σ ρ) (e : ρ[i]? = some (some t0)) (es : t0.sub p = some u) : ∃ v0 w gu, σ[i]? = some (some v0) ∧ walkV H v0 p = some w ∧ RO K mg G H u w gu ∧ gu.Nodup ∧
    ∀ b o u' fp', b ∈ gu → RO K mg G (upd H b o) u' w fp' → fp'.Nodup → (∀ x ∈ fp', x ∈ gu) → Rep K mg B G (upd H b o) σ (ρ.set i (some (t0.put p u'))) := by
  obtain ⟨v0, w, gu, fv, h1, h2, h3, h4, h5, h6⟩ := (r.val (d := .non) (v := .non) rfl).path e es
  have : fv = [] := h4.1
  subst this
  rw [List.append_nil] at h5
  exact ⟨v0, w, gu, h1, h2, h3, h5, fun b o u' fp' hb h nd sub => h6 b o u' fp' hb h nd fun x hx => .inl (sub x hx)⟩
/-- an owned list at a path -/
theorem Rep.path {i : Nat} {t0 : OT} {p : List Nat} {us : List OT} (r : Rep K mg B G H σ ρ) (e : ρ[i]? = some (some t0)) (es : t0.sub p = some (.lst us)) : ∃ v0 b ws gs, σ[i]? = some (some v0) ∧ walkV H v0 p = some (.ref b) ∧ us.length ≤ sizeLine ∧ H b = some (.lst ws) ∧ ROs K mg G H us ws gs ∧ (b :: gs).Nodup ∧
    ∀ o t' fp', RO K mg G (upd H b o) t' (.ref b) fp' → fp'.Nodup → (∀ x ∈ fp', x ∈ b :: gs) → Rep K mg B G (upd H b o) σ (ρ.set i (some (t0.put p t'))) := by
  obtain ⟨v0, w, gu, h1, h2, h3, h4, h5⟩ := r.sub e es
  obtain ⟨b, ws, gs, rfl, rfl, l, hb, ro⟩ := h3
  exact ⟨v0, b, ws, gs, h1, h2, l, hb, ro, h4, fun o t' fp' h nd sub => h5 b o t' fp' List.mem_cons_self h nd sub⟩
end
/-! ### path expressions -/
def relW (σ : L2.St) (s : Nat) (_ _ H' : Hp) (p : List Nat) (v : V) : Prop := ∃ v0, σ[s]? = some (some v0) ∧ walkV H' v0 p = some v
theorem later_W {σ : L2.St} {s : Nat} : Later (relW σ s) := fun _ _ _ _ _ _ _ h => h
section
variable {X : Cx} {W : WW} {io : List Nat} {s : Nat} {a b e o : Expr} {es : List Expr} {f : En → Res (List Nat)} {fi : En → Res D} {fs : En → Res (List D)} {pos ppos apos cpos : Pos} {x : Str} {name id : String}
/-- the expression tells a part of an owned slot -/
structure EP (X : Cx) (W : WW) (s : Nat) (e : Expr) (f : En → Res (List Nat)) : Prop where
  run : ∀ B, PE X e (fun σ H Q => lift X W (relW σ s) B f σ H Q)
def hereP (s : Nat) (ρ : En) : Res (List Nat) := match ρ[s]? with
  | some (some _) => .ok []
  | _ => .bad
theorem EP.nm (s : Nat) (hN : X.N[s]? = some x := by rfl) (hv : Vis X.env.scope x := by first | exact Or.inl rfl | exact Or.inr (Or.inl rfl) | exact Or.inr (Or.inr rfl)) (hd : (x == ("__debug__" : Str)) = false := by decide) (hcd : (x == ("__classdict__" : Str)) = false := by decide) : EP X W s (.Name x ppos) (hereP s) := ⟨fun B =>
  PE.mono (pe_var (i := s) hN hv hd hcd) fun σ H Q ⟨G, ρ, r, h⟩ => by
    unfold hereP at h
    split at h
    · rename_i ts es
      obtain ⟨v, fp, hv, _⟩ := r.slot es
      exact ⟨v, hv, h _ _ _ (Stp.refl r.gh) ⟨_, hv, by unfold walkV; rfl⟩⟩
    · exact h.elim⟩
/-- a list's, a tuple's or a dict's item -/
theorem ix_ltd (hu : X.A.units + 64 < cLine) : IxR X (fun x y H Q => (∃ p vs i w, x = .ref p ∧ y = .int i ∧ (SqL X.K H p vs ∨ SqT X.K H p vs) ∧ atI vs i = some w ∧ Q w H) ∨ ∃ a w, x = .ref a ∧ DGet H a y (some w) ∧ Q w H) := by
  intro value slice pins s σ H x y v u Q I rx ry h hs
  rcases h with ⟨p, vs, i, w, e1, e2, h, e3, q⟩ | h
  · rcases h with h | h
    · exact ix_list value slice pins s σ H x y v u Q I rx ry ⟨p, vs, i, w, e1, e2, h, e3, q⟩ hs
    · exact ix_tup value slice pins s σ H x y v u Q I rx ry ⟨p, vs, i, w, e1, e2, h, e3, q⟩ hs
  · exact ix_dict hu value slice pins s σ H x y v u Q I rx ry h hs
def keyIx {κ : Type} [DecidableEq κ] : List κ → κ → Option Nat
  | [], _ => none
  | k :: ks, q => if k = q then some 0 else (keyIx ks q).map (· + 1)
theorem keyIx_ok {κ : Type} [DecidableEq κ] {q : κ} : ∀ {ks : List κ} {ws : List V} {j : Nat}, keyIx ks q = some j → ks.length = ws.length → ∃ w, ws[j]? = some w ∧ valV (ks.zip ws) q = some w
  | [], _, _, h, _ => nomatch h
  | k :: ks, [], _, _, l => nomatch l
  | k :: ks, w :: ws, j, h, l => by
    unfold keyIx at h
    split at h
    · rename_i e
      cases h
      exact ⟨w, rfl, by rw [List.zip_cons_cons]; exact valV_pos (p := (k, w)) e⟩
    · rename_i e
      obtain ⟨i, hi, rfl⟩ := Option.map_eq_some_iff.mp h
      obtain ⟨u, h1, h2⟩ := keyIx_ok hi (by simpa using l)
      exact ⟨u, by simpa using h1, by rw [List.zip_cons_cons, valV_neg (p := (k, w)) e]; exact h2⟩
def stepP (s : Nat) (ρ : En) (p : List Nat) (k : D) : Res (List Nat) := match ρ[s]? with
  | some (some t0) => match t0.sub p, k with
    | some (.lst us), .int i => match ixN us.length i with
      | some j => .ok (p ++ [j])
      | none => .bad
    | some (.tup us), .int i => match ixN us.length i with
      | some j => .ok (p ++ [j])
      | none => .bad
    | some (.dK ks us), k => match keyOf k with
      | some q => match keyIx ks q with
        | some j => .ok (p ++ [j])
        | none => .bad
      | none => .bad
    | some (.dT ks us), .tup ds => match keysOf ds with
      | some q => match keyIx ks q with
        | some j => .ok (p ++ [j])
        | none => .bad
      | none => .bad
    | _, _ => .bad
  | _ => .bad
def ixP (s : Nat) (f : En → Res (List Nat)) (fi : En → Res D) (ρ : En) : Res (List Nat) := (f ρ).bind fun p => (fi ρ).bind fun k => stepP s ρ p k
theorem EP.ix (hu : X.A.units + 64 < cLine) (he : EP X W s e f) (hi : EF X W b fi) (hs : PlainIx b := by intro _ _; rfl) : EP X W s (.Subscript e b pos) (ixP s f fi) := ⟨fun B => PE.mono (pe_ix (ix_ltd hu) (he.run B) (hi.run B) hs) fun σ H Q ⟨G, ρ, r, h⟩ => by
  unfold ixP at h
  refine lift.next (rel := relW σ s) (g := fun p ρ => (fi ρ).bind fun k => stepP s ρ p k) later_W r h fun p v G1 H1 r1 s1 q1 w1 => ?_
  refine lift.next (rel := relD X.K X.mg) (g := fun k ρ => stepP s ρ p k) later_W r1 w1 fun k y G2 H2 r2 s2 q2 w2 => ?_
  unfold stepP at w2
  split at w2
  · rename_i t0 e0
    obtain ⟨v1, g1, g2⟩ := q1
    have g2 := walkV_mono s2.hh g2
    split at w2
    · rename_i us i es
      obtain ⟨v0, w0, gu, h1, h2, ⟨c, ws, gs, e1, e2, h3, h4, h5⟩, _⟩ := r2.sub e0 es
      rw [h1] at g1
      cases g1
      rw [h2] at g2
      cases g2
      subst e1
      cases q2
      split at w2
      · rename_i j hj
        have hjl : j < us.length := (ixN_seq hj).2.1
        obtain ⟨w, hw⟩ : ∃ w, ws[j]? = some w := ⟨_, List.getElem?_eq_getElem (by rw [h5.len]; exact hjl)⟩
        refine .inl ⟨c, ws, i, w, rfl, rfl, .inl (SqL.of h4), ?_, w2 _ _ _ (Stp.refl r2.gh) ⟨_, h1, walkV_snoc h2 (.inl h4) hw⟩⟩
        unfold L2.atI
        rw [h5.len, hj]
        exact hw
      · exact w2.elim
    · rename_i us i es
      obtain ⟨v0, w0, gu, h1, h2, ⟨c, ws, gs, e1, e2, h3, h4, h5⟩, _⟩ := r2.sub e0 es
      rw [h1] at g1
      cases g1
      rw [h2] at g2
      cases g2
      subst e1
      cases q2
      split at w2
      · rename_i j hj
        have hjl : j < us.length := (ixN_seq hj).2.1
        obtain ⟨w, hw⟩ : ∃ w, ws[j]? = some w := ⟨_, List.getElem?_eq_getElem (by rw [h5.len]; exact hjl)⟩
        refine .inl ⟨c, ws, i, w, rfl, rfl, .inr (SqT.of h4), ?_, w2 _ _ _ (Stp.refl r2.gh) ⟨_, h1, walkV_snoc h2 (.inr h4) hw⟩⟩
        unfold L2.atI
        rw [h5.len, hj]
        exact hw
      · exact w2.elim
    · rename_i ks us es
      obtain ⟨v0, w0, gu, h1, h2, ⟨c, ws, gs, e1, e2, h3, h4, h5⟩, _⟩ := r2.sub e0 es
      rw [h1] at g1
      cases g1
      rw [h2] at g2
      cases g2
      subst e1
      split at w2
      · rename_i q hq
        split at w2
        · rename_i j hj
          have hl : ks.length = ws.length := by rw [h5.len]; exact h3
          obtain ⟨w, hw, hv⟩ := keyIx_ok hj hl
          refine .inr ⟨c, w, rfl, ?_, w2 _ _ _ (Stp.refl r2.gh) ⟨_, h1, walkV_snocG h2 h4 (by show ((ks.zip ws).map (·.2))[j]? = _; rw [List.map_snd_zip (by rw [hl]; exact Nat.le_refl _)]; exact hw)⟩⟩
          have q2' : R X.K X.mg G2 _ y := q2
          rw [keyOf_ok q2' hq, ← hv]
          exact DGet.k h4
        · exact w2.elim
      · exact w2.elim
    · rename_i ks us ds es
      obtain ⟨v0, w0, gu, h1, h2, ⟨c, ws, gs, e1, e2, h3, h4, h5⟩, _⟩ := r2.sub e0 es
      rw [h1] at g1
      cases g1
      rw [h2] at g2
      cases g2
      subst e1
      split at w2
      · rename_i q hq
        split at w2
        · rename_i j hj
          have hl : ks.length = ws.length := by rw [h5.len]; exact h3
          obtain ⟨w, hw, hv⟩ := keyIx_ok hj hl
          obtain ⟨d, us', rfl, _, eb, qb⟩ := R.tup q2
          refine .inr ⟨c, w, rfl, ?_, w2 _ _ _ (Stp.refl r2.gh) ⟨_, h1, walkV_snocG h2 h4 (by show ((ks.zip ws).map (·.2))[j]? = _; rw [List.map_snd_zip (by rw [hl]; exact Nat.le_refl _)]; exact hw)⟩⟩
          rw [← hv]
          exact DGet.t h4 (by rw [← keysOf_ok qb hq]; exact r2.gh _ _ eb)
        · exact w2.elim
      · exact w2.elim
    · exact w2.elim
  · exact w2.elim⟩
end
end FL
/-! The functional layer, part PB: methods that change an owned list, at a path. -/
namespace FL
open PySem PySem.Spec PyProof.Rows L2
section
variable {K : PySem.W.Frag} {mg : Str → Option Value} {G H : Hp}
theorem ROs.split : ∀ {ts us : List OT} {vs : List V} {fs : List Addr}, ROs K mg G H (ts ++ us) vs fs → ∃ f1 f2, fs = f1 ++ f2 ∧ ROs K mg G H ts (vs.take ts.length) f1 ∧ ROs K mg G H us (vs.drop ts.length) f2
  | [], us, vs, fs, h => ⟨[], fs, rfl, ⟨by simp, rfl⟩, by simpa using h⟩
  | t :: ts, us, vs, fs, ⟨v, r, g1, g2, e1, e2, h, q⟩ => by
    obtain ⟨f1, f2, a1, a2, a3⟩ := ROs.split q
    subst e1 e2
    refine ⟨g1 ++ f1, f2, by rw [a1, List.append_assoc], ?_, by simpa using a3⟩
    rw [List.length_cons, List.take_succ_cons]
    exact ⟨v, _, g1, f1, rfl, rfl, h, a2⟩
theorem ROs.reverse : ∀ {ts : List OT} {vs : List V} {fs : List Addr}, ROs K mg G H ts vs fs → ∃ fs', fs'.Perm fs ∧ ROs K mg G H ts.reverse vs.reverse fs'
  | [], _, _, ⟨e1, e2⟩ => by subst e1 e2; exact ⟨[], .refl _, rfl, rfl⟩
  | t :: ts, _, _, ⟨v, r, f1, f2, e1, e2, h, q⟩ => by
    subst e1 e2
    obtain ⟨g, a1, a2⟩ := q.reverse
    refine ⟨g ++ f1, (List.perm_append_comm).trans (List.Perm.append_left _ a1), ?_⟩
    rw [List.reverse_cons, List.reverse_cons]
    exact a2.append (ROs.one h)
end
def rMut (K : PySem.W.Frag) (mg : Str → Option Value) (M : List OT → List D → Option (List OT)) : V → List V → Hp → VK → Prop := fun x vs H Q => ∃ G l xs ts fs ds ts', x = .ref l ∧ Same G H ∧ H l = some (.lst xs) ∧ ROs K mg G H ts xs fs ∧ (l :: fs).Nodup ∧ ts.length ≤ sizeLine ∧ Rs K mg G ds vs ∧ M ts ds = some ts' ∧
  ∀ v xs' fs', ROs K mg G (upd H l (.lst xs')) ts' xs' fs' → fs'.Nodup → (∀ p ∈ fs', p ∈ fs) → ts'.length ≤ sizeLine → Q v (upd H l (.lst xs'))
/-- the method id makes of a list what M says -/
def MutL (X : Cx) (id : String) (M : List OT → List D → Option (List OT)) : Prop := MtR X id (rMut X.K X.mg M)
section
variable {X : Cx} {W : WW} {io : List Nat} {s : Nat} {a b e o : Expr} {es : List Expr} {f : En → Res (List Nat)} {fi : En → Res D} {fs : En → Res (List D)} {pos ppos apos cpos : Pos} {x : Str} {name id : String} {M : List OT → List D → Option (List OT)}
def mutF (s : Nat) (M : List OT → List D → Option (List OT)) (f : En → Res (List Nat)) (fs : En → Res (List D)) (ρ : En) : Flw := bindF (f ρ) ρ fun p => match ρ[s]? with
  | some (some t0) => match t0.sub p with
    | some (.lst us) => bindF (fs ρ) ρ fun ds => match M us ds with
      | some us' => .nx (ρ.set s (some (t0.put p (.lst us'))))
      | none => .bad
    | _ => .bad
  | _ => .bad
theorem mut_core {B : Bs} {N : Ends} {G H : Hp} {σ : L2.St} {ρ : En} {t : TA} (ht : ∀ H Q, lift X W (relL X.K X.mg) B fs σ H Q → t σ H Q) (rep : Rep X.K X.mg B G H σ ρ) (h : Out X W B N (mutF s M f fs ρ)) :
    lift X W (relW σ s) B f σ H fun x H1 => tyV X.K "list" x H1 ∧ t σ H1 fun vs H2 => rMut X.K X.mg M x vs H2 fun _ H3 => N.nx σ H3 := by
  unfold mutF at h
  refine lift.of (rel := relW σ s) (g := f) rep h fun p v G1 H1 r1 s1 q1 o => ?_
  split at o
  · rename_i t0 e0
    split at o
    · rename_i us es
      obtain ⟨v0, c, ws, gs, h1, h2, h3, h4, h5, h6, _⟩ := r1.path e0 es
      obtain ⟨v1, g1, g2⟩ := q1
      rw [h1] at g1
      cases g1
      rw [h2] at g2
      cases g2
      refine ⟨tyV_lst h4, ht _ _ (lift.of (rel := relL X.K X.mg) (g := fs) r1 o fun ds vs G2 H2 r2 s2 q2 o2 => ?_)⟩
      obtain ⟨v0', c', ws', gs', k1, k2, k3, k4, k5, k6, back⟩ := r2.path e0 es
      rw [h1] at k1
      cases k1
      have h2' := walkV_mono s2.hh h2
      rw [h2'] at k2
      cases k2
      split at o2
      · rename_i us' hu
        refine ⟨G2, c, ws', us, gs', ds, us', rfl, r2.gh, k4, k5, k6, k3, q2, hu, fun v xs' fs' z1 z2 z3 z4 => o2 _ _ _ (back _ _ (c :: fs') ⟨c, xs', fs', rfl, rfl, z4, upd_same, z1⟩ ?_ fun y hy => ?_)⟩
        · exact List.nodup_cons.mpr ⟨fun z => (List.nodup_cons.mp k6).1 (z3 _ z), z2⟩
        · rcases List.mem_cons.mp hy with rfl | hy
          · exact List.mem_cons_self
          · exact List.mem_cons_of_mem _ (z3 y hy)
      · exact o2.elim
    · exact o.elim
  · exact o.elim
theorem S1.mutL (hM : MutL X id M) (slot : Slot "list" name id) (hty : typeOf (.builtin id) = pure (.type "method_descriptor")) (he : EP X W s o f) (ha : EA X W (e :: es) fs)
    (hbase : attributeBase o name X.env (eval o X.env) = eval o X.env := by rfl)
    (hfew : ((backTo cpos (starEach (e :: es) X.env)).all (fun y => !y.1) && (backToKw cpos (keywordEach [] X.env)).all (fun y => y.1.isSome) && decide ((e :: es).length + ([] : List Keyword).length + (if ([] : List Keyword).isEmpty then 0 else 1) < 30)) = true := by rfl)
    (hline : (apos.endLine == cpos.line) = true := by rfl) (hs : starEach (e :: es) X.env = (false, eval e X.env) :: starEach es X.env := by rfl) (hp : (backTo cpos (starEach es X.env)).any (·.1) = false := by rfl)
    (hsw : swapsWith (.Call (.Attribute o name apos) (e :: es) [] cpos) none pos.line X.env = pure false := by rfl) :
    S1 X W io (.Expr (.Call (.Attribute o name apos) (e :: es) [] cpos) pos) (mutF s M f fs) := ⟨fun B hB =>
  PS.mono (ps_expr (pe_bm PySem.F.plainAttrs_list slot hty hM (he.run B) (ha.run B) hbase hfew hline hs hp) hsw) fun N σ H ⟨G, ρ, r, h⟩ =>
    mut_core (fun _ _ z => z) r h⟩
theorem S1.mut0 (hM : MutL X id M) (slot : Slot "list" name id) (hty : typeOf (.builtin id) = pure (.type "method_descriptor")) (he : EP X W s o f)
    (hbase : attributeBase o name X.env (eval o X.env) = eval o X.env := by rfl) (hline : (apos.endLine == cpos.line) = true := by rfl)
    (hsw : swapsWith (.Call (.Attribute o name apos) [] [] cpos) none pos.line X.env = pure false := by rfl) :
    S1 X W io (.Expr (.Call (.Attribute o name apos) [] [] cpos) pos) (mutF s M f nilA) := ⟨fun B hB =>
  PS.mono (ps_expr (pe_bm0 PySem.F.plainAttrs_list slot hty hM (he.run B) hbase hline) hsw) fun N σ H ⟨G, ρ, r, h⟩ =>
    mut_core (t := fun _ H Q => Q [] H) (fun H Q ⟨G, ρ, r, h⟩ => h _ _ _ (Stp.refl r.gh) rfl) r h⟩
/-! ### what they do -/
def appM : List OT → List D → Option (List OT)
  | ts, [d] => if ts.length < 16777216 then some (ts ++ [.d d]) else none
  | _, _ => none
def insM : List OT → List D → Option (List OT)
  | ts, [.int i, d] => if 0 ≤ i ∧ i < 2 ^ 63 ∧ ts.length < 16777216 then some (ts.take i.toNat ++ ([.d d] ++ ts.drop i.toNat)) else none
  | _, _ => none
def popM : List OT → List D → Option (List OT)
  | ts, [.int i] => if -(2 ^ 63) ≤ i ∧ i < 2 ^ 63 then (ixN ts.length i).map fun k => ts.take k ++ ts.drop (k + 1) else none
  | _, _ => none
def popE : List OT → List D → Option (List OT)
  | ts, [] => if ts = [] then none else some ts.dropLast
  | _, _ => none
def revM : List OT → List D → Option (List OT)
  | ts, [] => some ts.reverse
  | _, _ => none
def clrM : List OT → List D → Option (List OT)
  | _, [] => some []
  | _, _ => none
def extM : List OT → List D → Option (List OT)
  | ts, [.lst ds] => if ts.length + ds.length ≤ 16777216 then some (ts ++ ds.map .d) else none
  | ts, [.tup ds] => if ts.length + ds.length ≤ 16777216 then some (ts ++ ds.map .d) else none
  | _, _ => none
theorem nd_ne {l : Addr} {fs : List Addr} {H : Hp} {o : HO} (nd : (l :: fs).Nodup) : ∀ p ∈ fs, upd H l o p = H p := fun p hp => upd_ne fun z => (List.nodup_cons.mp nd).1 (z ▸ hp)
theorem app_mut : MutL X "list.append" appM := by
  rintro pins s σ H x vs v us Q I rx rv ⟨G, l, xs, ts, fs, ds, ts', rfl, gh, hl, ro, nd, sz, rs, hm, k⟩
  unfold appM at hm
  split at hm
  · rename_i d
    split at hm
    · rename_i hlt
      cases hm
      obtain ⟨w, rfl, rw_⟩ := rs.one
      refine mt_append pins s σ H _ _ v us Q I rx rv ⟨l, xs, w, rfl, rfl, hl, by rw [ro.len]; exact sz_lt hlt, k _ _ fs ?_ (List.nodup_cons.mp nd).2 (fun _ z => z) (by rw [List.length_append]; exact sz_lt hlt)⟩
      have q := (ro.frame (Same.refl _) (nd_ne (o := .lst (xs ++ [w])) nd)).append (ROs.one (RO.dd (H := upd H l (.lst (xs ++ [w]))) rw_))
      rw [List.append_nil] at q
      exact q
    · cases hm
  · cases hm
theorem ins_mut : MutL X "list.insert" insM := by
  rintro pins s σ H x vs v us Q I rx rv ⟨G, l, xs, ts, fs, ds, ts', rfl, gh, hl, ro, nd, sz, rs, hm, k⟩
  unfold insM at hm
  split at hm
  · rename_i i d
    split at hm
    · rename_i hlt
      cases hm
      obtain ⟨w0, r1, rfl, e1, q1⟩ := id rs
      obtain ⟨w, rfl, rw_⟩ := q1.one
      cases e1
      have hle : xs.length = ts.length := ro.len
      refine mt_insert pins s σ H _ _ v us Q I rx rv ⟨l, xs, i, w, rfl, rfl, hl, by rw [hle]; exact sz_lt hlt.2.2, hlt.1, hlt.2.1, k _ _ fs ?_ (List.nodup_cons.mp nd).2 (fun _ z => z) ?_⟩
      · have ro1 := ro.frame (Same.refl _) (nd_ne (o := .lst (xs.take i.toNat ++ [w] ++ xs.drop i.toNat)) nd)
        rw [← List.take_append_drop i.toNat ts] at ro1
        obtain ⟨f1, f2, e1, e2, e3⟩ := ro1.split
        have ht : ∀ n : List OT → Nat, xs.take (ts.take i.toNat).length = xs.take i.toNat := fun _ => by
          rw [List.length_take, ← hle]
          exact List.take_eq_take_iff.mpr (by omega)
        have hd : xs.drop (ts.take i.toNat).length = xs.drop i.toNat := by
          rw [List.length_take, ← hle]
          rcases Nat.le_total i.toNat xs.length with z | z
          · rw [Nat.min_eq_left z]
          · rw [Nat.min_eq_right z, List.drop_length, List.drop_eq_nil_of_le z]
        rw [ht fun _ => 0] at e2
        rw [hd] at e3
        rw [e1, List.append_assoc]
        have q := e2.append ((ROs.one (RO.dd (H := upd H l (.lst (xs.take i.toNat ++ [w] ++ xs.drop i.toNat))) rw_)).append e3)
        rw [List.nil_append] at q
        rw [List.append_assoc] at q
        exact q
      · have := sz_lt hlt.2.2
        simp only [List.length_append, List.length_take, List.length_drop, List.length_cons, List.length_nil]
        omega
    · cases hm
  · cases hm
theorem pop_mut : MutL X "list.pop" popM := by
  rintro pins s σ H x vs v us Q I rx rv ⟨G, l, xs, ts, fs, ds, ts', rfl, gh, hl, ro, nd, sz, rs, hm, k⟩
  unfold popM at hm
  split at hm
  · rename_i i
    split at hm
    · rename_i hlt
      obtain ⟨j, hj, rfl⟩ := Option.map_eq_some_iff.mp hm
      obtain ⟨w, rfl, rw_⟩ := rs.one
      cases rw_
      have hle : xs.length = ts.length := ro.len
      have hjl : j < ts.length := (ixN_seq hj).2.1
      obtain ⟨y, hy⟩ : ∃ y, xs[j]? = some y := ⟨_, List.getElem?_eq_getElem (by omega)⟩
      have ro1 := ro.frame (Same.refl _) (nd_ne (o := .lst (xs.eraseIdx j)) nd)
      obtain ⟨t, ht⟩ : ∃ t, ts[j]? = some t := ⟨_, List.getElem?_eq_getElem hjl⟩
      have e0 : ts = ts.take j ++ ([t] ++ ts.drop (j + 1)) := by
        conv => lhs; rw [← List.take_append_drop j ts, List.drop_eq_getElem_cons hjl]
        rw [List.getElem?_eq_getElem hjl] at ht
        rw [Option.some.inj ht]; rfl
      rw [e0] at ro1
      obtain ⟨f1, f2, e1, e2, e3⟩ := ro1.split
      obtain ⟨f3, f4, e4, e5, e6⟩ := e3.split
      have hlen : (ts.take j).length = j := by rw [List.length_take]; omega
      rw [hlen] at e2 e3 e6
      rw [List.length_singleton, List.drop_drop] at e6
      refine mt_popAt pins s σ H _ _ v us Q I rx rv ⟨l, xs, i, j, y, rfl, rfl, hl, hlt.1, hlt.2, by rw [hle]; exact (ixN_seq hj).1, hy, k _ _ (f1 ++ f4) ?_ ?_ ?_ ?_⟩
      · have q := e2.append e6
        rw [← List.eraseIdx_eq_take_drop_succ xs] at q
        exact q
      · have := (List.nodup_cons.mp nd).2
        rw [e1, e4] at this
        exact this.sublist (List.Sublist.append (List.Sublist.refl _) (List.sublist_append_right _ _))
      · intro p hp
        rw [e1, e4]
        rcases List.mem_append.mp hp with hp | hp
        · exact List.mem_append_left _ hp
        · exact List.mem_append_right _ (List.mem_append_right _ hp)
      · simp only [List.length_append, List.length_take, List.length_drop]; omega
    · cases hm
  · cases hm
theorem rev_mut : MutL X "list.reverse" revM := by
  rintro pins s σ H x vs v us Q I rx rv ⟨G, l, xs, ts, fs, ds, ts', rfl, gh, hl, ro, nd, sz, rs, hm, k⟩
  unfold revM at hm
  split at hm
  · cases hm
    cases (show vs = [] from rs)
    obtain ⟨fs', p1, p2⟩ := (ro.frame (Same.refl _) (nd_ne (o := .lst xs.reverse) nd)).reverse
    exact mt_reverse pins s σ H _ _ v us Q I rx rv ⟨l, xs, rfl, rfl, hl, k _ _ fs' p2 (p1.nodup_iff.mpr (List.nodup_cons.mp nd).2) (fun p hp => p1.mem_iff.mp hp) (by rw [List.length_reverse]; exact sz)⟩
  · cases hm
theorem clr_mut : MutL X "list.clear" clrM := by
  rintro pins s σ H x vs v us Q I rx rv ⟨G, l, xs, ts, fs, ds, ts', rfl, gh, hl, ro, nd, sz, rs, hm, k⟩
  unfold clrM at hm
  split at hm
  · cases hm
    cases (show vs = [] from rs)
    exact mt_clear pins s σ H _ _ v us Q I rx rv ⟨l, xs, rfl, rfl, hl, k _ _ [] ⟨rfl, rfl⟩ List.nodup_nil (fun p hp => absurd hp (by simp)) (Nat.zero_le _)⟩
  · cases hm
theorem ext_mut : MutL X "list.extend" extM := by
  rintro pins s σ H x vs v us Q I rx rv ⟨G, l, xs, ts, fs, ds, ts', rfl, gh, hl, ro, nd, sz, rs, hm, k⟩
  have go : ∀ (d : List D) (ws : List V) (b : Addr), Rs X.K X.mg G d ws → ts.length + d.length ≤ 16777216 → ts' = ts ++ d.map .d → vs = [.ref b] → (H b = some (.lst ws) ∨ SqT X.K H b ws) → wpAny (model X.prog X.w) X.A (PySem.call (.builtin "list.extend") (v :: us)) (L2.EP X pins σ Q) X.xe s := fun d ws b rd hz et ev hb => by
    subst et ev
    refine mt_ext2 pins s σ H _ _ v us Q I rx rv ⟨l, b, xs, ws, rfl, rfl, hl, hb, by rw [ro.len, rd.len]; exact sz_le hz, k _ _ fs ?_ (List.nodup_cons.mp nd).2 (fun _ z => z) (by rw [List.length_append, List.length_map]; exact sz_le hz)⟩
    have q := (ro.frame (Same.refl _) (nd_ne (o := .lst (xs ++ ws)) nd)).append (ROs.dds (H := upd H l (.lst (xs ++ ws))) rd)
    rw [List.append_nil] at q
    exact q
  unfold extM at hm
  split at hm
  · split at hm
    · rename_i hz
      cases hm
      obtain ⟨w, rfl, rw_⟩ := rs.one
      obtain ⟨b, ws, rfl, _, hb, qb⟩ := R.lst rw_
      exact go _ ws b qb hz rfl rfl (.inl (gh _ _ hb))
    · cases hm
  · split at hm
    · rename_i hz
      cases hm
      obtain ⟨w, rfl, rw_⟩ := rs.one
      obtain ⟨b, ws, rfl, _, hb, qb⟩ := R.tup rw_
      exact go _ ws b qb hz rfl rfl (.inr (SqT.of (gh _ _ hb)))
    · cases hm
  · cases hm
end
end FL
/-! The functional layer, part PC: the greatest, least of three. -/
namespace FL
open PySem PySem.Spec PyProof.Rows L2
section
variable {X : Cx}
def max3 : List D → Option D
  | [.int i, .int j, .int k] => some (.int (max (max i j) k))
  | _ => none
theorem nu3 (i j k : Int) : nuMax3 (.int i) (.int j) (.int k) = some (.int (max (max i j) k)) := by
  have two : ∀ a b : Int, nuMax2 (.int a) (.int b) = some (.int (max a b)) := fun a b => by
    show some (if decide (a < b) = true then V.int b else V.int a) = _
    by_cases h : a < b
    · rw [decide_eq_true h, if_pos rfl, show max a b = b by omega]
    · rw [decide_eq_false h, if_neg Bool.false_ne_true, show max a b = a by omega]
  unfold nuMax3
  rw [two]
  exact two _ _
theorem max3_ok (hc : X.calm = true) : CallD X (.builtin "max") max3 := by
  rintro pins s σ H xs us Q I r ⟨G, ds, c, gh, q, hg, k⟩
  unfold max3 at hg
  split at hg
  · cases hg
    obtain ⟨v, ws, rfl, q1, q2⟩ := q
    obtain ⟨w, z, rfl, q2, q3⟩ := q2.two
    cases q1; cases q2; cases q3
    exact call_max3Nu hc pins s σ H _ us Q I r ⟨_, _, _, _, rfl, nu3 _ _ _, k _ _ _ (Stp.refl gh) rfl⟩
  · cases hg
end
end FL
/-! The functional layer, part PD: list.remove of data. -/
namespace FL
open PySem PySem.Spec PyProof.Rows L2
theorem hu65 {k : Nat} {A : Around} (r : Room k A) : A.units + 65 < cLine := by have := r.un; omega
def unD : List OT → Option (List D)
  | [] => some []
  | .d x :: ts => (unD ts).map (x :: ·)
  | _ :: _ => none
theorem unD_some : ∀ {ts : List OT} {ds : List D}, unD ts = some ds → ts = ds.map .d
  | [], _, h => by cases h; rfl
  | .d x :: ts, ds, h => by
    obtain ⟨es, h1, rfl⟩ := Option.map_eq_some_iff.mp h
    rw [unD_some h1]; rfl
  | .lst _ :: _, _, h => by cases h
  | .tup _ :: _, _, h => by cases h
  | .dK _ _ :: _, _, h => by cases h
  | .dT _ _ :: _, _, h => by cases h
  | .ins _ _ _ :: _, _, h => by cases h
theorem ROs.undds {K : PySem.W.Frag} {mg : Str → Option Value} {G H : Hp} : ∀ {ds : List D} {vs : List V} {fs : List Addr}, ROs K mg G H (ds.map .d) vs fs → Rs K mg G ds vs ∧ fs = []
  | [], _, _, ⟨e1, e2⟩ => ⟨e1, e2⟩
  | d :: ds, _, _, ⟨v, r, f1, f2, e1, e2, h, q⟩ => by
    obtain ⟨h1, h2⟩ := h
    obtain ⟨q1, q2⟩ := ROs.undds q
    exact ⟨⟨v, r, e1, h2, q1⟩, by rw [e2, h1, q2]; rfl⟩
def remM : List OT → List D → Option (List OT)
  | ts, [d] => match unD ts with
    | some ds => if plain 64 d && plains 65 ds then (idxN d ds).map fun j => ts.take j ++ ts.drop (j + 1) else none
    | none => none
  | _, _ => none
theorem plains_mem {n : Nat} : ∀ {ds : List D}, plains (n + 1) ds = true → ∀ z ∈ ds, plain n z = true
  | [], _, z, h => nomatch h
  | d :: ds, h, z, hz => by
    rw [plains, Bool.and_eq_true] at h
    rcases List.mem_cons.mp hz with rfl | hz
    · exact h.1
    · exact plains_mem h.2 z hz
section
variable {X : Cx}
theorem pys_len : ∀ ds : List D, (pys ds).length = ds.length
  | [] => rfl
  | _ :: ds => by rw [pys, List.length_cons, List.length_cons, pys_len ds]
theorem pys_at : ∀ (ds : List D) (m : Nat), (pys ds)[m]? = (ds[m]?).map py
  | [], m => by simp [pys]
  | d :: ds, 0 => by simp [pys]
  | d :: ds, m + 1 => by rw [pys, List.getElem?_cons_succ, List.getElem?_cons_succ, pys_at ds m]
theorem rem_mut (hu : X.A.units + 65 < cLine) : MutL X "list.remove" remM := by
  rintro pins s σ H x vs v us Q I rx rv ⟨G, l, xs, ts, fs, ds, ts', rfl, gh, hl, ro, nd, sz, rs, hm, k⟩
  unfold remM at hm
  split at hm
  · rename_i d
    split at hm
    · rename_i es he
      have et := unD_some he
      subst et
      split at hm
      · rename_i hp
        rw [Bool.and_eq_true] at hp
        obtain ⟨j, hj, rfl⟩ := Option.map_eq_some_iff.mp hm
        obtain ⟨y, y1, y2, y3⟩ := idxN_some hj
        obtain ⟨q, rfl⟩ := ro.undds
        obtain ⟨w, rfl, rw_⟩ := rs.one
        cases rx
        obtain ⟨uu, rfl, ruu⟩ := rv.one
        obtain ⟨z, its, n, r, hl2, e⟩ := I.lstM hl
        obtain ⟨bs, r1⟩ := Dp.reads I (py d) w uu (py_dp gh 64 d w hp.1 rw_) ruu
        obtain ⟨as, h4⟩ := Dp.readsAll I (pys es) _ its (pys_dp gh 65 es xs hp.2 q) r
        have sd : SeqAt.shaped (py d) = true := shaped_of hp.1 rw_
        have hlay : PyData.canLayAll0 (pys es) = true := (pys_lay 65 es xs hp.2 q).1
        have hroom : X.A.units + 1 + min (PyData.depthAll (pys es)) (py d).depth < cLine := room_in_shaped sd hu
        have hmap : its.map (SeqAt.readOf s.heap) = pys es := SeqAt.readsAll_map (pys es) its as hlay h4
        have hle : es.length = its.length := by
          have := congrArg List.length hmap
          rw [List.length_map, pys_len] at this
          exact this.symm
        have hxl : xs.length = es.length := q.len
        have at_ : ∀ (m : Nat) (hm : m < its.toArray.size) (z : D), es[m]? = some z → SeqAt.readOf s.heap its.toArray[m] = py z := fun m hm z hz => by
          have hml : m < its.length := by simpa using hm
          have h2 : (its.map (SeqAt.readOf s.heap))[m]? = some (py z) := by rw [hmap, pys_at, hz]; rfl
          rw [List.getElem?_map, List.getElem?_eq_getElem hml] at h2
          have := Option.some.inj h2
          simpa using this
        have hpl : ∀ z ∈ es, plain 64 z = true := plains_mem hp.2
        have hjl : j < es.length := (List.getElem?_eq_some_iff.mp y1).1
        have hj2 : j < its.toArray.size := by simpa [← hle] using hjl
        refine call_meets PySem.F.slot_list_remove ⟨_, e, rfl⟩ PySem.F.entry_list_remove (PySem.F.args_list_remove_2 _ _)
          (PySem.SeqAt.list_removeAt l its.toArray n none #[] uu (fun u => PyData.eqv (SeqAt.readOf s.heap u) (py d)) j hj2 ?_ ?_ ?_) ⟨e, SeqAt.items_eqAt (vs := its.toArray) h4 r1 hlay (SeqAt.canLay_of_shaped sd) hroom, ?_⟩
        · show PyData.eqv (SeqAt.readOf s.heap its.toArray[j]) (py d) = true
          rw [at_ j hj2 y y1, eqv_py 64 y d (hpl y (List.mem_of_getElem? y1)) hp.1]
          exact y2
        · intro m hm2 hmj
          have hml : m < es.length := by omega
          show PyData.eqv (SeqAt.readOf s.heap its.toArray[m]) (py d) = false
          rw [at_ m hm2 _ (List.getElem?_eq_getElem hml), eqv_py 64 _ d (hpl _ (List.getElem_mem hml)) hp.1]
          exact y3 m _ hmj (List.getElem?_eq_getElem hml)
        · rw [List.size_toArray, ← hle]
          rw [List.length_map] at sz
          exact sz
        · refine ⟨.non, _, I.lset (ys := xs.eraseIdx j) (its' := its.eraseIdx j) (t' := s.toks) hl e ?_ (r.eraseIdx j) ?_, rfl, k _ _ [] ?_ List.nodup_nil (fun p hp => absurd hp (by simp)) ?_⟩
          · show its.toArray.eraseIdxIfInBounds j = (its.eraseIdx j).toArray
            rw [List.eraseIdxIfInBounds_toArray]
          · have := len_erase xs j
            rw [List.length_map] at sz
            omega
          · rw [List.eraseIdx_eq_take_drop_succ]
            have q2 := (q.take j).append (q.drop (j + 1))
            have := ROs.dds (H := upd H l (.lst (xs.take j ++ xs.drop (j + 1)))) q2
            rw [List.map_append, List.map_take, List.map_drop] at this
            exact this
          · simp only [List.length_append, List.length_take, List.length_drop, List.length_map] at sz ⊢
            omega
      · cases hm
    · cases hm
  · cases hm
end
end FL
/-! The functional layer, part PE: a walk from the end. -/
namespace FL
open PySem PySem.Spec PyProof.Rows L2
section
variable {X : Cx} {W : WW} {tg e : Expr} {f : En → Res D} {pos p : Pos} {K : PySem.W.Frag} {mg : Str → Option Value}
def rvI : D → Option (List D)
  | .lst xs => some xs.reverse
  | .tup xs => some xs.reverse
  | _ => none
theorem rev_at {α : Type} {l : List α} {i : Nat} {x : α} (h : l.reverse[i]? = some x) : i < l.length ∧ l[l.length - 1 - i]? = some x := by
  have hi : i < l.length := by
    have := (List.getElem?_eq_some_iff.mp h).1
    rwa [List.length_reverse] at this
  exact ⟨hi, by rw [List.getElem?_reverse hi] at h; exact h⟩
theorem walks_rev {G : Hp} {a : Addr} {ds : List D} {vs : List V} (e : G a = some (.lst vs)) (q : Rs K mg G ds vs) : Walks K mg (Itv K a vs.length) G ds.reverse := fun i G' H g gh => by
  have sq : SqL K H a vs := SqL.of (gh _ _ (g _ _ e))
  have hl := q.len
  refine ⟨fun h => by rw [List.length_reverse, ← hl] at h; exact h, fun d hd => ?_⟩
  obtain ⟨hi, h0⟩ := rev_at hd
  rw [← hl] at h0 hi
  obtain ⟨v, h1, h2⟩ := q.get h0
  refine ⟨⟨hi, vs, v, sq, h1⟩, fun x H' ⟨e1, y⟩ => ?_⟩
  subst e1
  have ex := y vs sq
  rw [h1] at ex
  cases ex
  exact ⟨G', Stp.refl gh, R.mono g h2⟩
theorem walks_revT {G : Hp} {a : Addr} {ds : List D} {vs : List V} (e : G a = some (.tup vs)) (q : Rs K mg G ds vs) : Walks K mg (RT.ItvT K a vs.length) G ds.reverse := fun i G' H g gh => by
  have sq : SqT K H a vs := SqT.of (gh _ _ (g _ _ e))
  have hl := q.len
  refine ⟨fun h => by rw [List.length_reverse, ← hl] at h; exact h, fun d hd => ?_⟩
  obtain ⟨hi, h0⟩ := rev_at hd
  rw [← hl] at h0 hi
  obtain ⟨v, h1, h2⟩ := q.get h0
  refine ⟨⟨hi, vs, v, sq, h1⟩, fun x H' ⟨e1, y⟩ => ?_⟩
  subst e1
  have ex := y vs sq
  rw [h1] at ex
  cases ex
  exact ⟨G', Stp.refl gh, R.mono g h2⟩
theorem EI.rev (hm : X.mg "reversed" = none) (h : EF X W e f) (hg : Gl X "reversed" := by rfl) (hs : starEach [e] X.env = (false, eval e X.env) :: starEach [] X.env := by rfl) : EI X W tg (.Call (.Name "reversed" p) [e] [] pos) (it1 rvI f) := ⟨fun B => PI.mono (RT.pi_revA hg hm (h.run B) (hs := hs)) fun σ H Q ⟨G, ρ, r, h⟩ =>
  lift.next (rel := relD X.K X.mg) (g := fun d _ => FL.ofO (rvI d)) later_I r h fun d x G1 H1 r1 s1 q1 w1 => by
    cases d <;> first | exact w1.elim | skip
    · obtain ⟨c, vs, rfl, l, e1, q⟩ := q1.lst
      exact ⟨c, vs, rfl, .inl ⟨SqL.of (r1.gh _ _ e1), Wr.ok w1 (Stp.refl r1.gh) ⟨by rw [List.length_reverse]; exact l, walks_rev e1 q⟩⟩⟩
    · obtain ⟨c, vs, rfl, l, e1, q⟩ := q1.tup
      exact ⟨c, vs, rfl, .inr ⟨SqT.of (r1.gh _ _ e1), Wr.ok w1 (Stp.refl r1.gh) ⟨by rw [List.length_reverse]; exact l, walks_revT e1 q⟩⟩⟩⟩
end
end FL
/-! The functional layer, part PF: displays of owned parts. -/
namespace FL
open PySem PySem.Spec PyProof.Rows L2
def relOs (K : PySem.W.Frag) (mg : Str → Option Value) (H G' H' : Hp) (ts : List OT) (vs : List V) : Prop := ∃ fp, ROs K mg G' H' ts vs fp ∧ fp.Nodup ∧ ∀ p ∈ fp, H p = none ∧ G' p = none
theorem later_Os {K : PySem.W.Frag} {mg : Str → Option Value} : Later (relOs K mg) := fun _ _ _ _ _ _ s ⟨fp, a, b, c⟩ => ⟨fp, a, b, fun p hp => ⟨s.free (c p hp).1, (c p hp).2⟩⟩
section
variable {X : Cx} {W : WW} {e : Expr} {es : List Expr} {f : En → Res OT} {fs : En → Res (List OT)} {pos : Pos}
/-- the expressions tell fresh trees, one after the other -/
structure EOA (X : Cx) (W : WW) (es : List Expr) (fs : En → Res (List OT)) : Prop where
  run : ∀ B, PA X es (lift X W (relOs X.K X.mg) B fs)
def nilO (_ : En) : Res (List OT) := .ok []
def consO (f : En → Res OT) (fs : En → Res (List OT)) (ρ : En) : Res (List OT) := (f ρ).bind fun t => (fs ρ).bind fun ts => .ok (t :: ts)
theorem EOA.nil : EOA X W [] nilO := ⟨fun B => PA.mono pa_nil fun σ H Q ⟨G, ρ, r, h⟩ => h _ _ _ (Stp.refl r.gh) ⟨[], ⟨rfl, rfl⟩, List.nodup_nil, fun p hp => absurd hp (by simp)⟩⟩
theorem EOA.cons (h : EO X W e f) (h2 : EOA X W es fs) (hs : starEach (e :: es) X.env = (false, eval e X.env) :: starEach es X.env := by rfl) : EOA X W (e :: es) (consO f fs) := ⟨fun B => PA.mono (pa_cons (h.run B) (h2.run B) hs) fun σ H Q ⟨G, ρ, r, h⟩ => ⟨G, ρ, r, by
  unfold consO at h
  cases e1 : f ρ with
  | bad => rw [e1] at h; exact h.elim
  | ex c => rw [e1] at h; exact h
  | ok t =>
    rw [e1, Res.bind_ok] at h
    intro v G1 H1 s1 ⟨fp, a1, a2, a3⟩
    refine ⟨G1, ρ, r.step s1, ?_⟩
    cases e2 : fs ρ with
    | bad => rw [e2] at h; exact h.elim
    | ex c =>
      rw [e2] at h
      exact ⟨h.1, fun G2 H2 cls dd s2 q => h.2 G2 H2 cls dd (s1.trans s2) q⟩
    | ok ts =>
      rw [e2, Res.bind_ok] at h
      intro vs G2 H2 s2 ⟨fq, b1, b2, b3⟩
      refine h (v :: vs) G2 H2 (s1.trans s2) ⟨fp ++ fq, ⟨v, vs, fp, fq, rfl, rfl, a1.frame s2.gg (fun p hp => same_at s2.hh (RO.live a1 p hp)), b1⟩, List.nodup_append.mpr ⟨a2, b2, fun p hp q hq z => RO.live a1 p hp (by rw [z]; exact (b3 q hq).1)⟩, fun p hp => ?_⟩
      rcases List.mem_append.mp hp with hp | hp
      · exact ⟨(a3 p hp).1, by rw [s2.old p (RO.live a1 p hp)]; exact (a3 p hp).2⟩
      · exact ⟨s1.hh.free (b3 p hp).1, (b3 p hp).2⟩⟩⟩
def disT (fs : En → Res (List OT)) (ρ : En) : Res OT := (fs ρ).bind fun ts => if ts.length ≤ 16777216 then .ok (.tup ts) else .bad
def disL (fs : En → Res (List OT)) (ρ : En) : Res OT := (fs ρ).bind fun ts => if ts.length ≤ 16777216 then .ok (.lst ts) else .bad
theorem EO.disT {n} (ha : EOA X W es fs) : EO X W (.Tuple es n pos) (disT fs) := ⟨fun B => PE.mono (pe_tup (ha.run B)) fun σ H Q ⟨G, ρ, r, h⟩ => ⟨G, ρ, r, by
  unfold FL.disT at h
  cases e2 : fs ρ with
  | bad => rw [e2] at h; exact h.elim
  | ex c => rw [e2] at h; exact h
  | ok ts =>
    rw [e2, Res.bind_ok] at h
    split at h
    · rename_i hl
      intro vs G1 H1 s1 ⟨fp, a1, a2, a3⟩
      refine ⟨by rw [a1.len]; exact sz_le hl, fun p hp => ?_⟩
      have np : p ∉ fp := fun z => ROs.live a1 p z hp
      refine h _ G1 _ (s1.trans (Stp.own s1.gh hp)) ⟨p :: fp, ⟨p, vs, fp, rfl, rfl, sz_le hl, upd_same, a1.frame (Same.refl _) fun q hq => upd_ne fun z => np (z ▸ hq)⟩, List.nodup_cons.mpr ⟨np, a2⟩, fun q hq => ?_⟩
      rcases List.mem_cons.mp hq with rfl | hq
      · exact ⟨s1.hh.free hp, s1.gh.free hp⟩
      · exact a3 q hq
    · exact h.elim⟩⟩
theorem EO.disL (ha : EOA X W es fs) : EO X W (.List es pos) (disL fs) := ⟨fun B => PE.mono (pe_lst (ha.run B)) fun σ H Q ⟨G, ρ, r, h⟩ => ⟨G, ρ, r, by
  unfold FL.disL at h
  cases e2 : fs ρ with
  | bad => rw [e2] at h; exact h.elim
  | ex c => rw [e2] at h; exact h
  | ok ts =>
    rw [e2, Res.bind_ok] at h
    split at h
    · rename_i hl
      intro vs G1 H1 s1 ⟨fp, a1, a2, a3⟩
      refine ⟨by rw [a1.len]; exact sz_le hl, fun p hp => ?_⟩
      have np : p ∉ fp := fun z => ROs.live a1 p z hp
      refine h _ G1 _ (s1.trans (Stp.own s1.gh hp)) ⟨p :: fp, ⟨p, vs, fp, rfl, rfl, sz_le hl, upd_same, a1.frame (Same.refl _) fun q hq => upd_ne fun z => np (z ▸ hq)⟩, List.nodup_cons.mpr ⟨np, a2⟩, fun q hq => ?_⟩
      rcases List.mem_cons.mp hq with rfl | hq
      · exact ⟨s1.hh.free hp, s1.gh.free hp⟩
      · exact a3 q hq
    · exact h.elim⟩⟩
end
end FL
/-! The functional layer, part PG: what is told is taken apart, its parts owned. -/
namespace FL
open PySem PySem.Spec PyProof.Rows L2
section
variable {K : PySem.W.Frag} {mg : Str → Option Value} {B : Bs} {G H : Hp} {σ : L2.St} {ρ : En}
/-- values that are the environment's own -/
structure RepVs (K : PySem.W.Frag) (mg : Str → Option Value) (B : Bs) (G H : Hp) (σ : L2.St) (ρ : En) (ts : List OT) (vs : List V) : Prop where
  g : Gr B G H σ
  len : ρ.length = σ.length
  sl : ∃ F fv, Slots K mg B G H σ ρ F ∧ ROs K mg G H ts vs fv ∧ fv.Nodup ∧ (∀ p ∈ fv, H p ≠ none ∧ G p = none ∧ B.O p = none) ∧ ∀ i p, p ∈ fv → p ∉ F i
theorem RepVs.nil {vs : List V} (r : RepVs K mg B G H σ ρ [] vs) : Rep K mg B G H σ ρ ∧ vs = [] := by
  obtain ⟨F, fv, f, h, _⟩ := r.sl
  exact ⟨⟨r.g, r.len, F, f⟩, h.1⟩
theorem RepVs.cons {t : OT} {ts : List OT} {ws : List V} (r : RepVs K mg B G H σ ρ (t :: ts) ws) : ∃ v vs, ws = v :: vs ∧ ∀ i, (∀ q ∈ B.io, q.1 ≠ i) → RepVs K mg B G H (σ.set i (some v)) (ρ.set i (some t)) ts vs := by
  obtain ⟨F, fv, f, ⟨v, vs, f1, f2, e1, e2, h, q⟩, nd, at_, dj⟩ := r.sl
  subst e1 e2
  obtain ⟨n1, n2, d1⟩ := List.nodup_append.mp nd
  refine ⟨v, vs, rfl, fun i hi => ?_⟩
  have r1 : RepV K mg B G H σ ρ t v := ⟨r.g, r.len, F, f1, f, h, n1, fun p hp => at_ p (List.mem_append_left _ hp), fun j p hp => dj j p (List.mem_append_left _ hp)⟩
  have r2 := r1.set hi
  refine ⟨r2.g, r2.len, fun j => if j = i then f1 else F j, f2, ⟨fun j u e => ?_, fun j => ?_, fun j p hp => ?_, fun j k p ne hp hk => ?_⟩, q, n2, fun p hp => at_ p (List.mem_append_right _ hp), fun j p hp hj => ?_⟩
  · rcases get_set e with ⟨e1, hl, e2⟩ | ⟨ne, e⟩
    · subst e1; cases e2
      exact ⟨v, List.getElem?_set_self (by rw [← r.len]; exact hl), by rw [if_pos rfl]; exact h⟩
    · obtain ⟨w, a, b⟩ := f.rep j u e
      exact ⟨w, by rw [List.getElem?_set_ne ne]; exact a, by rw [if_neg (fun z => ne z.symm)]; exact b⟩
  · (try dsimp only); split
    · exact n1
    · exact f.nd j
  · (try dsimp only at hp); split at hp
    · exact at_ p (List.mem_append_left _ hp)
    · exact f.at_ j p hp
  · (try dsimp only at hp hk); split at hp
    · split at hk
      · rename_i z1 z2
        exact ne (z1.trans z2.symm)
      · exact dj k p (List.mem_append_left _ hp) hk
    · split at hk
      · exact dj j p (List.mem_append_left _ hk) hp
      · exact f.dj j k p ne hp hk
  · (try dsimp only at hj); split at hj
    · exact d1 p hj p hp rfl
    · exact dj j p (List.mem_append_right _ hp) hj
end
/-- a target takes an owned thing -/
structure EGO (X : Cx) (vs : List Nat) (tg : Expr) (g : OT → En → Option En) : Prop where
  run : ∀ B, (∀ q ∈ B.io, q.1 ∉ vs) → PG X tg fun v σ H Q => ∃ G ρ t ρ', RepV X.K X.mg B G H σ ρ t v ∧ g t ρ = some ρ' ∧ ∀ σ', Rep X.K X.mg B G H σ' ρ' → wipe σ' vs = wipe σ vs → Q σ' H
structure EGOs (X : Cx) (vs : List Nat) (ts : List Expr) (g : List OT → En → Option En) : Prop where
  run : ∀ B, (∀ q ∈ B.io, q.1 ∉ vs) → PGs X ts fun xs σ H Q => ∃ G ρ us ρ', RepVs X.K X.mg B G H σ ρ us xs ∧ g us ρ = some ρ' ∧ ∀ σ', Rep X.K X.mg B G H σ' ρ' → wipe σ' vs = wipe σ vs → Q σ' H
def oN (i : Nat) (t : OT) (ρ : En) : Option En := some (ρ.set i (some t))
def oNil (ts : List OT) (ρ : En) : Option En := match ts with
  | [] => some ρ
  | _ => none
def oCons (i : Nat) (gs : List OT → En → Option En) (ts : List OT) (ρ : En) : Option En := match ts with
  | [] => none
  | t :: ts => gs ts (ρ.set i (some t))
def oT (n : Nat) (gs : List OT → En → Option En) (t : OT) (ρ : En) : Option En := match t with
  | .tup ts => if ts.length = n then gs ts ρ else none
  | _ => none
section
variable {X : Cx} {W : WW} {io vs : List Nat} {pos : Pos} {e tg : Expr} {es : List Expr} {g : OT → En → Option En} {gs : List OT → En → Option En} {fo : En → Res OT}
theorem EGOs.nil : EGOs X vs [] oNil := ⟨fun B hio => PGs.mono pgs_nil fun v σ H Q ⟨G, ρ, us, ρ', r, e, k⟩ => by
  cases us with
  | nil => cases e; exact ⟨r.nil.2, k _ r.nil.1 rfl⟩
  | cons _ _ => cases e⟩
theorem EGOs.cons (i : Nat) {x : Str} {p : Pos} (hN : X.N.Nodup) (h2 : EGOs X vs es gs) (hv : i ∈ vs := by first | exact List.mem_cons_self | decide) (hi : X.N[i]? = some x := by rfl) (hx : Loc X.env.scope x := by first | exact .inl rfl | exact .inr rfl)
    (hf : X.fn x = true ∨ X.env.scope.names.lookup x = some .local := by first | exact .inl rfl | exact .inr rfl) (hs : (assignEach (.Name x p :: es) X.env).map (·.2) = assign (.Name x p) X.env :: (assignEach es X.env).map (·.2) := by rfl) : EGOs X vs (.Name x p :: es) (oCons i gs) := ⟨fun B hio =>
  PGs.mono (pgs_cons (pg_name hN hi hx hf) (h2.run B hio) hs) fun v σ H Q ⟨G, ρ, us, ρ', r, e, k⟩ => by
    cases us with
    | nil => cases e
    | cons t us =>
      obtain ⟨w, ws, rfl, h⟩ := r.cons
      exact ⟨w, ws, rfl, G, _, us, ρ', h i fun q hq z => hio q hq (z ▸ hv), e, fun σ2 r2 w2 => k σ2 r2 (w2.trans (wipe_set hv))⟩⟩
theorem EGO.tup {k n : Nat} (hc : X.calm = true) (h : EGOs X vs es gs) (hn : (assignEach es X.env).length = n := by rfl) (hst : (assignEach es X.env).findIdx? (·.1) = none := by rfl) : EGO X vs (.Tuple es k pos) (oT n gs) := ⟨fun B hio => PG.mono (pg_tup hc (h.run B hio) hn hst) fun v σ H Q ⟨G, ρ, t, ρ', r, e, k⟩ => by
  unfold oT at e
  split at e
  · split at e
    · rename_i ts hl
      obtain ⟨F, fv, f, ⟨p, ws, fs, rfl, rfl, l, hp, ro⟩, nd, at_, dj⟩ := r.sl
      exact ⟨p, ws, rfl, SqT.of hp, by rw [ro.len]; exact hl, G, ρ, ts, ρ', ⟨r.g, r.len, F, fs, f, ro, (List.nodup_cons.mp nd).2, fun q hq => at_ q (List.mem_cons_of_mem _ hq), fun j q hq => dj j q (List.mem_cons_of_mem _ hq)⟩, e, k⟩
    · cases e
  · cases e⟩
def asgU (g : OT → En → Option En) (f : En → Res OT) (ρ : En) : Flw := bindF (f ρ) ρ fun t => match g t ρ with
  | some ρ' => .nx ρ'
  | none => .bad
theorem S1.unO (h : EO X W e fo) (hg : EGO X vs tg g) (hio : ∀ i ∈ io, i ∉ vs := by decide) (hs : swapsWithSole [tg] e pos.line X.env = pure false := by rfl) (hw : swappedStores [tg] e X.env = pure none := by rfl)
    (h1 : (assignEach [tg] X.env).map (·.2) = [assign tg X.env] := by rfl) : S1 X W io (.Assign [tg] e pos) (asgU g fo) := ⟨fun B hB => PS.mono (ps_asg (h.run B) (hg.run B (fun q hq => hio q.1 (by rw [← hB]; exact List.mem_map_of_mem hq))) hs hw h1) fun N σ H ⟨G, ρ, r, h⟩ =>
  lift.of r h fun a b G' H' r' s ⟨fp, q1, q2, q3⟩ o => by
    cases eg : g a ρ with
    | none => rw [eg] at o; exact o.elim
    | some ρ' => rw [eg] at o; exact ⟨G', ρ, a, ρ', r.fresh s q1 q2 q3, eg, fun σ' r2 _ => o _ _ _ r2⟩⟩
end
end FL
/-! The functional layer, part PH: displays of which parts are moved out of slots, handed back. -/
namespace FL
open PySem PySem.Spec PyProof.Rows L2
def relMs (K : PySem.W.Frag) (mg : Str → Option Value) (σ : L2.St) (G' : Hp) : List (D ⊕ Nat) → List V → Prop
  | [], vs => vs = []
  | .inl d :: ws, vs => ∃ v r, vs = v :: r ∧ R K mg G' d v ∧ relMs K mg σ G' ws r
  | .inr i :: ws, vs => ∃ v r, vs = v :: r ∧ σ[i]? = some (some v) ∧ relMs K mg σ G' ws r
theorem relMs.mono {K : PySem.W.Frag} {mg : Str → Option Value} {σ : L2.St} {G G' : Hp} (g : Same G G') : ∀ {ws : List (D ⊕ Nat)} {vs : List V}, relMs K mg σ G ws vs → relMs K mg σ G' ws vs
  | [], _, h => h
  | .inl _ :: _, _, ⟨v, r, e, h, q⟩ => ⟨v, r, e, R.mono g h, relMs.mono g q⟩
  | .inr _ :: _, _, ⟨v, r, e, h, q⟩ => ⟨v, r, e, h, relMs.mono g q⟩
theorem relMs.len {K : PySem.W.Frag} {mg : Str → Option Value} {σ : L2.St} {G : Hp} : ∀ {ws : List (D ⊕ Nat)} {vs : List V}, relMs K mg σ G ws vs → vs.length = ws.length
  | [], _, h => by rw [h]; rfl
  | .inl _ :: _, _, ⟨v, r, e, h, q⟩ => by rw [e, List.length_cons, List.length_cons, relMs.len q]
  | .inr _ :: _, _, ⟨v, r, e, h, q⟩ => by rw [e, List.length_cons, List.length_cons, relMs.len q]
/-- the parts' trees, the slots they leave -/
def takeM : List (D ⊕ Nat) → En → Option (List OT × En)
  | [], ρ => some ([], ρ)
  | .inl d :: ws, ρ => (takeM ws ρ).map fun q => (.d d :: q.1, q.2)
  | .inr i :: ws, ρ => match ρ[i]? with
    | some (some t) => (takeM ws (ρ.set i none)).map fun q => (t :: q.1, q.2)
    | _ => none
section
variable {K : PySem.W.Frag} {mg : Str → Option Value} {B : Bs} {G H : Hp} {σ : L2.St}
theorem take_core {F : Nat → List Addr} : ∀ {ws : List (D ⊕ Nat)} {vs : List V} {ρ ρ' : En} {ts : List OT}, Slots K mg B G H σ ρ F → relMs K mg σ G ws vs → takeM ws ρ = some (ts, ρ') →
    Slots K mg B G H σ ρ' F ∧ ρ'.length = ρ.length ∧ (∀ (j : Nat) (u : OT), ρ'[j]? = some (some u) → ρ[j]? = some (some u)) ∧ ∃ fv, ROs K mg G H ts vs fv ∧ fv.Nodup ∧ ∀ p ∈ fv, ∃ j : Nat, p ∈ F j ∧ (∃ u : OT, ρ[j]? = some (some u)) ∧ ∀ u : OT, ρ'[j]? ≠ some (some u)
  | [], vs, ρ, ρ', ts, f, h, e => by
    cases e
    exact ⟨f, rfl, fun _ _ z => z, [], ⟨h, rfl⟩, List.nodup_nil, fun p hp => absurd hp (by simp)⟩
  | .inl d :: ws, vs, ρ, ρ', ts, f, ⟨v, r, e1, h, q⟩, e => by
    obtain ⟨⟨ts', ρ2⟩, e2, e3⟩ := Option.map_eq_some_iff.mp e
    cases e3
    obtain ⟨a1, a2, a3, fv, a4, a5, a6⟩ := take_core f q e2
    exact ⟨a1, a2, a3, fv, ⟨v, r, [], fv, e1, rfl, RO.dd h, a4⟩, a5, a6⟩
  | .inr i :: ws, vs, ρ, ρ', ts, f, ⟨v, r, e1, h, q⟩, e => by
    unfold takeM at e
    split at e
    · rename_i t et
      obtain ⟨⟨ts', ρ2⟩, e2, e3⟩ := Option.map_eq_some_iff.mp e
      cases e3
      obtain ⟨a1, a2, a3, fv, a4, a5, a6⟩ := take_core (f.forget i) q e2
      obtain ⟨w, b1, b2⟩ := f.rep i t et
      rw [h] at b1
      cases b1
      have gone : ∀ u : OT, ρ2[i]? ≠ some (some u) := fun u z => by
        have := a3 i u z
        rcases get_set this with ⟨_, _, e4⟩ | ⟨ne, _⟩
        · cases e4
        · exact ne rfl
      refine ⟨a1, by rw [a2, List.length_set], fun j u z => ?_, F i ++ fv, ⟨v, r, F i, fv, e1, rfl, b2, a4⟩, List.nodup_append.mpr ⟨f.nd i, a5, fun p hp p2 hp2 z => ?_⟩, fun p hp => ?_⟩
      · rcases get_set (a3 j u z) with ⟨_, _, e4⟩ | ⟨_, e4⟩
        · cases e4
        · exact e4
      · subst z
        obtain ⟨j, c1, ⟨u, c2⟩, c3⟩ := a6 p hp2
        have ne : j ≠ i := fun z => by
          rcases get_set c2 with ⟨_, _, e4⟩ | ⟨ne, _⟩
          · cases e4
          · exact ne z.symm
        exact f.dj i j p ne.symm hp c1
      · rcases List.mem_append.mp hp with hp | hp
        · exact ⟨i, hp, ⟨t, et⟩, gone⟩
        · obtain ⟨j, c1, ⟨u, c2⟩, c3⟩ := a6 p hp
          refine ⟨j, c1, ?_, c3⟩
          rcases get_set c2 with ⟨_, _, e4⟩ | ⟨_, e4⟩
          · cases e4
          · exact ⟨u, e4⟩
    · cases e
open Classical in
theorem take_rep {ρ ρ' : En} {ws : List (D ⊕ Nat)} {vs : List V} {ts : List OT} (r : Rep K mg B G H σ ρ) (h : relMs K mg σ G ws vs) (e : takeM ws ρ = some (ts, ρ')) : RepVs K mg B G H σ ρ' ts vs := by
  obtain ⟨F, f⟩ := r.sl
  obtain ⟨a1, a2, a3, fv, a4, a5, a6⟩ := take_core f h e
  refine ⟨r.g, by rw [a2]; exact r.len, fun j => if ∃ u : OT, ρ'[j]? = some (some u) then F j else [], fv, ⟨fun i t ei => ?_, fun i => ?_, fun i p hp => ?_, fun i j p ne hp hk => ?_⟩, a4, a5, fun p hp => ?_, fun i p hp hi => ?_⟩
  · obtain ⟨v, b1, b2⟩ := a1.rep i t ei
    exact ⟨v, b1, by rw [if_pos ⟨t, ei⟩]; exact b2⟩
  · (try dsimp only); split
    · exact f.nd i
    · exact List.nodup_nil
  · (try dsimp only at hp); split at hp
    · exact f.at_ i p hp
    · cases hp
  · (try dsimp only at hp hk); split at hp
    · split at hk
      · exact f.dj i j p ne hp hk
      · cases hk
    · cases hp
  · obtain ⟨j, c1, _⟩ := a6 p hp
    exact f.at_ j p c1
  · (try dsimp only at hi); split at hi
    · rename_i hu
      obtain ⟨u, hu⟩ := hu
      obtain ⟨j, c1, _, c3⟩ := a6 p hp
      by_cases z : i = j
      · subst z
        exact c3 u hu
      · exact f.dj i j p z hi c1
    · cases hi
theorem RepVs.tup {ρ : En} {vs : List V} {ts : List OT} {p : Addr} (r : RepVs K mg B G H σ ρ ts vs) (hp : H p = none) (l : ts.length ≤ sizeLine) : RepV K mg B G (upd H p (.tup vs)) σ ρ (.tup ts) (.ref p) := by
  obtain ⟨F, fv, f, h, nd, at_, dj⟩ := r.sl
  have st : Stp G H G (upd H p (.tup vs)) := Stp.own r.g.gh hp
  have np : p ∉ fv := fun z => (at_ p z).1 hp
  have hO : B.O p = none := by
    cases e : B.O p with
    | none => rfl
    | some o =>
      have := r.g.oh p o e
      rw [hp] at this
      cases this
  refine ⟨r.g.step st, r.len, F, p :: fv, f.step st, ⟨p, vs, fv, rfl, rfl, l, upd_same, h.frame (Same.refl _) fun q hq => upd_ne fun z => np (z ▸ hq)⟩, List.nodup_cons.mpr ⟨np, nd⟩, fun q hq => ?_, fun i q hq hi => ?_⟩
  · rcases List.mem_cons.mp hq with rfl | hq
    · refine ⟨?_, r.g.gh.free hp, hO⟩
      rw [upd_same]
      exact fun z => nomatch z
    · obtain ⟨c1, c2, c3⟩ := at_ q hq
      exact ⟨live_of st.hh c1, c2, c3⟩
  · rcases List.mem_cons.mp hq with rfl | hq
    · exact (f.at_ i _ hi).1 hp
    · exact dj i q hq hi
end
end FL
/-! The functional layer, part PI: return (a, b), a or b moved out of its slot. -/
namespace FL
open PySem PySem.Spec PyProof.Rows L2
section
variable {X : Cx} {W : WW} {io : List Nat} {e : Expr} {es : List Expr} {f : En → Res D} {fs : En → Res (List (D ⊕ Nat))} {pos ppos pos2 : Pos} {x : Str}
structure EMA (X : Cx) (W : WW) (es : List Expr) (fs : En → Res (List (D ⊕ Nat))) : Prop where
  run : ∀ B, PA X es (fun σ H Q => lift X W (fun _ G' _ ws vs => relMs X.K X.mg σ G' ws vs) B fs σ H Q)
def nilM (_ : En) : Res (List (D ⊕ Nat)) := .ok []
def consF (f : En → Res D) (fs : En → Res (List (D ⊕ Nat))) (ρ : En) : Res (List (D ⊕ Nat)) := (f ρ).bind fun d => (fs ρ).bind fun ws => .ok (.inl d :: ws)
def consM (i : Nat) (fs : En → Res (List (D ⊕ Nat))) (ρ : En) : Res (List (D ⊕ Nat)) := match ρ[i]? with
  | some (some _) => (fs ρ).bind fun ws => .ok (.inr i :: ws)
  | _ => .bad
theorem later_M {K : PySem.W.Frag} {mg : Str → Option Value} {σ : L2.St} : Later (fun (_ G' _ : Hp) (ws : List (D ⊕ Nat)) (vs : List V) => relMs K mg σ G' ws vs) := fun _ _ _ _ _ _ _ h => h
theorem EMA.nil : EMA X W [] nilM := ⟨fun B => PA.mono pa_nil fun σ H Q ⟨G, ρ, r, h⟩ => h _ _ _ (Stp.refl r.gh) rfl⟩
theorem EMA.consF (h : EF X W e f) (h2 : EMA X W es fs) (hs : starEach (e :: es) X.env = (false, eval e X.env) :: starEach es X.env := by rfl) : EMA X W (e :: es) (consF f fs) := ⟨fun B => PA.mono (pa_cons (h.run B) (h2.run B) hs) fun σ H Q ⟨G, ρ, r, h⟩ =>
  lift.next (rel := relD X.K X.mg) (g := fun d ρ => (fs ρ).bind fun ws => .ok (.inl d :: ws) ) (later_M (K := X.K) (mg := X.mg) (σ := σ)) r h fun a b G1 H1 r1 s q w =>
    lift.next (rel := fun _ G' _ ws vs => relMs X.K X.mg σ G' ws vs) (g := fun ws _ => .ok (.inl a :: ws) ) (later_M (K := X.K) (mg := X.mg) (σ := σ)) r1 w fun as bs G2 H2 r2 s2 q2 w2 => w2.ok (Stp.refl r2.gh) (show relMs X.K X.mg σ G2 (.inl a :: as) (b :: bs) from ⟨b, bs, rfl, R.mono s2.gg q, q2⟩)⟩
theorem EMA.consM (i : Nat) (h2 : EMA X W es fs) (hN : X.N[i]? = some x := by rfl) (hv : Vis X.env.scope x := by first | exact Or.inl rfl | exact Or.inr (Or.inl rfl) | exact Or.inr (Or.inr rfl)) (hd : (x == ("__debug__" : Str)) = false := by decide) (hcd : (x == ("__classdict__" : Str)) = false := by decide)
    (hs : starEach (.Name x ppos :: es) X.env = (false, eval (.Name x ppos) X.env) :: starEach es X.env := by rfl) : EMA X W (.Name x ppos :: es) (consM i fs) := ⟨fun B => PA.mono (pa_cons (pe_var (i := i) hN hv hd hcd) (h2.run B) hs) fun σ H Q ⟨G, ρ, r, h⟩ => by
  unfold FL.consM at h
  split at h
  · rename_i t et
    obtain ⟨v, fp, hv, _⟩ := r.slot et
    exact ⟨v, hv, lift.next (rel := fun _ G' _ ws vs => relMs X.K X.mg σ G' ws vs) (g := fun ws _ => .ok (.inr i :: ws) ) (later_M (K := X.K) (mg := X.mg) (σ := σ)) r h fun as bs G2 H2 r2 s2 q2 w2 => w2.ok (Stp.refl r2.gh) (show relMs X.K X.mg σ G2 (.inr i :: as) (v :: bs) from ⟨v, bs, rfl, hv, q2⟩)⟩
  · exact h.elim⟩
/-- return (..), parts moved -/
def retT (fs : En → Res (List (D ⊕ Nat))) (ρ : En) : Flw := bindF (fs ρ) ρ fun ws => match takeM ws ρ with
  | some (ts, ρ') => if ts.length ≤ 16777216 then .rt (.tup ts) ρ' else .bad
  | none => .bad
theorem S1.retT {n} (h : EMA X W es fs) : S1 X W io (.Return (some (.Tuple es n pos2)) pos) (retT fs) := ⟨fun B hB => PS.mono (ps_ret (pe_tup (h.run B))) fun N σ H ⟨G, ρ, r, h⟩ => by
  unfold FL.retT at h
  refine lift.of (rel := fun _ G' _ ws vs => relMs X.K X.mg σ G' ws vs) (g := fs) r h fun ws vs G1 H1 r1 s1 q1 o => ?_
  split at o
  · rename_i ts ρ' et
    split at o
    · rename_i hl
      have rv := take_rep r1 q1 et
      have hlen : vs.length = ts.length := by
        obtain ⟨F, fv, _, ro, _⟩ := rv.sl
        exact ro.len
      exact ⟨by rw [hlen]; exact sz_le hl, fun p hp => o _ _ _ _ (rv.tup hp (sz_le hl))⟩
    · exact o.elim
  · exact o.elim⟩
end
end FL
/-! The functional layer, part PJ: a statement that reads some owned things as they stand. -/
namespace FL
open PySem PySem.Spec PyProof.Rows L2
def okT (nt : Bool) (t : OT) : Bool := flatT t || (nt && immT t)
def flatO (nt : Bool) : Option OT → Option OT
  | some t => if okT nt t = true then some t else none
  | none => none
/-- the slots of ks are frozen -/
def frzK (ks : List Nat) : Nat → En → En
  | _, [] => []
  | i, o :: ρ => (if ks.contains i = true then o.map (fun t => .d (fz t)) else o) :: frzK ks (i + 1) ρ
def noK (ks : List Nat) (ρ : En) : Bool := ks.all fun k => match ρ[k]? with
  | some (some t) => noT t
  | _ => true
/-- the slots behind: those of ks as they were, of the others what hangs on nothing that was frozen -/
def mixE (nt : Bool) (ks : List Nat) : Nat → En → En → En
  | i, a :: ρ, b :: ρ' => (if ks.contains i = true then a else flatO nt b) :: mixE nt ks (i + 1) ρ ρ'
  | _, _, _ => []
def mixF (nt : Bool) (ks : List Nat) (ρ ρ' : En) (k : En → Flw) : Flw := if ρ'.length = ρ.length then k (mixE nt ks 0 ρ ρ') else .bad
def borW (nt : Bool) (ks : List Nat) (ρ : En) : Flw → Flw
  | .nx ρ' => mixF nt ks ρ ρ' .nx
  | .bk ρ' => mixF nt ks ρ ρ' .bk
  | .ct ρ' => mixF nt ks ρ ρ' .ct
  | .rt t ρ' => if okT nt t = true then mixF nt ks ρ ρ' (.rt t) else .bad
  | .ex x ρ' => match x.p with
    | none => mixF nt ks ρ ρ' (.ex x)
    | some _ => .bad
  | .bad => .bad
def inE (ρ : En) (i : Nat) : Bool := match ρ[i]? with
  | some (some _) => true
  | _ => false
def borF (ks : List Nat) (F : En → Flw) (ρ : En) : Flw := if ks.all (inE ρ) = true then borW (noK ks ρ) ks ρ (F (frzK ks 0 ρ)) else .bad
theorem mixE_len {nt : Bool} {ks : List Nat} : ∀ {i : Nat} {ρ ρ' : En}, ρ'.length = ρ.length → (mixE nt ks i ρ ρ').length = ρ'.length
  | _, [], [], _ => rfl
  | i, a :: ρ, b :: ρ', h => by
    rw [mixE, List.length_cons, List.length_cons, mixE_len (by simpa using h)]
  | _, [], _ :: _, h => nomatch h
  | _, _ :: _, [], h => nomatch h
theorem mixE_get {nt : Bool} {ks : List Nat} : ∀ {i j : Nat} {ρ ρ' : En} {t : OT}, (mixE nt ks i ρ ρ')[j]? = some (some t) → (ks.contains (i + j) = true ∧ ρ[j]? = some (some t)) ∨ (ks.contains (i + j) = false ∧ okT nt t = true ∧ ρ'[j]? = some (some t))
  | _, _, [], ρ', _, h => by cases ρ' <;> cases h
  | _, _, _ :: _, [], _, h => nomatch h
  | i, 0, a :: ρ, b :: ρ', t, h => by
    rw [mixE, List.getElem?_cons_zero] at h
    cases hk : ks.contains i with
    | true => rw [hk, if_pos rfl] at h; exact .inl ⟨rfl, h⟩
    | false =>
      rw [hk, if_neg Bool.false_ne_true] at h
      refine .inr ⟨rfl, ?_⟩
      unfold flatO at h
      split at h
      · split at h
        · rename_i q; cases h; exact ⟨q, rfl⟩
        · cases h
      · cases h
  | i, j + 1, a :: ρ, b :: ρ', t, h => by
    rw [mixE, List.getElem?_cons_succ] at h
    rw [List.getElem?_cons_succ, List.getElem?_cons_succ, show i + (j + 1) = i + 1 + j by omega]
    exact mixE_get h
theorem frzK_len {ks : List Nat} : ∀ {i : Nat} {ρ : En}, (frzK ks i ρ).length = ρ.length
  | _, [] => rfl
  | i, o :: ρ => by rw [frzK, List.length_cons, List.length_cons, frzK_len]
theorem frzK_get {ks : List Nat} : ∀ {i j : Nat} {ρ : En} {t : OT}, (frzK ks i ρ)[j]? = some (some t) → (ks.contains (i + j) = true ∧ ∃ u, ρ[j]? = some (some u) ∧ t = .d (fz u)) ∨ (ks.contains (i + j) = false ∧ ρ[j]? = some (some t))
  | _, _, [], t, h => nomatch h
  | i, 0, a :: ρ, t, h => by
    rw [frzK, List.getElem?_cons_zero] at h
    cases hk : ks.contains i with
    | true =>
      rw [hk, if_pos rfl] at h
      cases a with
      | none => cases h
      | some u => cases h; exact .inl ⟨rfl, u, rfl, rfl⟩
    | false => rw [hk, if_neg Bool.false_ne_true] at h; exact .inr ⟨rfl, h⟩
  | i, j + 1, a :: ρ, t, h => by
    rw [frzK, List.getElem?_cons_succ] at h
    rw [List.getElem?_cons_succ, show i + (j + 1) = i + 1 + j by omega]
    exact frzK_get h
section
variable {K : PySem.W.Frag} {mg : Str → Option Value} {B : Bs} {G H G1 G' H' : Hp} {σ σ' : L2.St} {ρ ρ' : En} {ks : List Nat} {kv : List (Nat × V)}
theorem Rep.vals (r : Rep K mg B G H σ ρ) : ∀ {ks : List Nat}, ks.all (inE ρ) = true → ∃ kv : List (Nat × V), kv.map (·.1) = ks ∧ ∀ q ∈ kv, σ[q.1]? = some (some q.2)
  | [], _ => ⟨[], rfl, fun q h => nomatch h⟩
  | k :: ks, h => by
    rw [List.all_cons, Bool.and_eq_true] at h
    obtain ⟨kv, e, f⟩ := r.vals h.2
    have h1 := h.1
    unfold inE at h1
    split at h1
    · rename_i t ht
      obtain ⟨v, fp, hv, _⟩ := r.slot ht
      refine ⟨(k, v) :: kv, by rw [List.map_cons, e], fun q hq => ?_⟩
      rcases List.mem_cons.mp hq with rfl | hq
      · exact hv
      · exact f q hq
    · cases h1
/-- an address of the slots in ks -/
def KA (ks : List Nat) (F : Nat → List Addr) (p : Addr) : Prop := ∃ i, ks.contains i = true ∧ p ∈ F i
open Classical in
noncomputable def onK (ks : List Nat) (F : Nat → List Addr) (A C : Hp) : Hp := fun p => if KA ks F p then A p else C p
theorem onK_in {F : Nat → List Addr} {A C : Hp} {p : Addr} (h : KA ks F p) : onK ks F A C p = A p := if_pos h
theorem onK_out {F : Nat → List Addr} {A C : Hp} {p : Addr} (h : ¬KA ks F p) : onK ks F A C p = C p := if_neg h
theorem KA.of {F : Nat → List Addr} (f : Slots K mg B G H σ ρ F) {i : Nat} {p : Addr} (hk : ks.contains i = false) (hp : p ∈ F i) : ¬KA ks F p := fun ⟨j, a, b⟩ => by
  by_cases e : j = i
  · subst e; rw [hk] at a; cases a
  · exact f.dj j i p e b hp
/-- they are frozen, and must stay -/
theorem Rep.under {F : Nat → List Addr} (r : Rep K mg B G H σ ρ) (f : Slots K mg B G H σ ρ F) (hk : ∀ q ∈ kv, σ[q.1]? = some (some q.2)) : Same G (onK ks F H G) ∧ Rep K mg ⟨onK ks F H B.O, onK ks F H G, kv ++ B.io⟩ (onK ks F H G) H σ (frzK ks 0 ρ) := by
  have kG : ∀ {p}, KA ks F p → G p = none ∧ B.O p = none ∧ H p ≠ none := fun {p} ⟨i, _, h⟩ => ⟨(f.at_ i p h).2.1, (f.at_ i p h).2.2, (f.at_ i p h).1⟩
  have g1 : Same G (onK ks F H G) := fun p o h => by
    by_cases k : KA ks F p
    · rw [(kG k).1] at h; cases h
    · rw [onK_out k]; exact h
  refine ⟨g1, ⟨fun p o h => ?_, fun p o h => ?_, Same.refl _, fun _ _ => rfl, fun q hq => ?_⟩, by rw [frzK_len]; exact r.len, fun i => if ks.contains i = true then [] else F i, fun i t e => ?_, fun i => ?_, fun i p hp => ?_, fun i j p ne hp hq => ?_⟩
  · by_cases k : KA ks F p
    · rw [onK_in k] at h; exact h
    · rw [onK_out k] at h; exact r.gh p o h
  · by_cases k : KA ks F p
    · exact (onK_in (A := H) (C := B.O) k).symm.trans h
    · exact r.g.oh p o ((onK_out (A := H) (C := B.O) k).symm.trans h)
  · rcases List.mem_append.mp hq with hq | hq
    · exact hk q hq
    · exact r.g.io q hq
  · rcases frzK_get e with ⟨c, u, eu, rfl⟩ | ⟨c, e⟩
    · rw [Nat.zero_add] at c
      obtain ⟨v, hv, h⟩ := f.rep i u eu
      exact ⟨v, hv, by rw [if_pos c]; exact ⟨rfl, h.fz g1 fun p hp => onK_in ⟨i, c, hp⟩⟩⟩
    · rw [Nat.zero_add] at c
      obtain ⟨v, hv, h⟩ := f.rep i t e
      exact ⟨v, hv, by rw [if_neg (by rw [c]; exact Bool.false_ne_true)]; exact h.frame g1 fun _ _ => rfl⟩
  · (try dsimp only); split
    · exact List.nodup_nil
    · exact f.nd i
  · (try dsimp only at hp); split at hp
    · cases hp
    · rename_i c
      have c : ks.contains i = false := by simpa using c
      have n := KA.of f c hp
      obtain ⟨a, b, o⟩ := f.at_ i p hp
      exact ⟨a, (onK_out n).trans b, (onK_out (A := H) (C := B.O) n).trans o⟩
  · (try dsimp only at hp hq); split at hp
    · cases hp
    · split at hq
      · cases hq
      · exact f.dj i j p ne hp hq
theorem mix_core {F : Nat → List Addr} (r : Rep K mg B G H σ ρ) (f : Slots K mg B G H σ ρ F) (g' : Gr ⟨onK ks F H B.O, onK ks F H G, kv ++ B.io⟩ G' H' σ') : Same G (onK ks F G G') ∧ Gr B (onK ks F G G') H' σ' ∧ (∀ p, KA ks F p → H' p = H p ∧ G' p = H p) := by
  have kG : ∀ {p}, KA ks F p → G p = none ∧ B.O p = none ∧ H p ≠ none := fun {p} ⟨i, _, h⟩ => ⟨(f.at_ i p h).2.1, (f.at_ i p h).2.2, (f.at_ i p h).1⟩
  have gg : Same G (onK ks F G G') := fun p o h => by
    by_cases k : KA ks F p
    · rw [onK_in k]; exact h
    · rw [onK_out k]; exact g'.g0 p o ((onK_out (A := H) (C := G) k).trans h)
  refine ⟨gg, ⟨fun p o h => ?_, fun p o h => ?_, r.g.g0.trans gg, fun p h => ?_, fun q hq => g'.io q (List.mem_append_right _ hq)⟩, fun p k => ?_⟩
  · by_cases k : KA ks F p
    · rw [onK_in k, (kG k).1] at h; cases h
    · rw [onK_out k] at h; exact g'.gh p o h
  · refine g'.oh p o ?_
    by_cases k : KA ks F p
    · rw [(kG k).2.1] at h; cases h
    · exact (onK_out (A := H) (C := B.O) k).trans h
  · by_cases k : KA ks F p
    · exact absurd (kG k).2.1 h
    · rw [onK_out k]
      exact ((g'.og p (by rw [show (Bs.O ⟨onK ks F H B.O, onK ks F H G, kv ++ B.io⟩) p = B.O p from onK_out k]; exact h)).trans (onK_out (A := H) (C := G) k)).trans (r.g.og p h)
  · have hO : (Bs.O ⟨onK ks F H B.O, onK ks F H G, kv ++ B.io⟩) p = H p := onK_in k
    exact ⟨(same_at g'.oh (by rw [hO]; exact (kG k).2.2)).trans hO, (g'.og p (by rw [hO]; exact (kG k).2.2)).trans (onK_in (A := H) (C := G) k)⟩
theorem okT_imm {F : Nat → List Addr} {t : OT} {v : V} {fp : List Addr} (f : Slots K mg B G H σ ρ F) (ok : ks.all (inE ρ) = true) (kk : ∀ p, KA ks F p → H' p = H p ∧ G' p = H p) (ft : okT (noK ks ρ) t = true) (h : RO K mg G' H' t v fp) : RO K mg (onK ks F G G') H' t v fp := by
  unfold okT at ft
  rw [Bool.or_eq_true, Bool.and_eq_true] at ft
  rcases ft with ft | ⟨nt, ft⟩
  · exact RO.flat ft h
  · refine RO.imm (fun a vs e => ?_) ft h
    by_cases k : KA ks F a
    · obtain ⟨i, c, hi⟩ := k
      have m : i ∈ ks := List.contains_iff_mem.mp c
      have a1 := List.all_eq_true.mp ok i m
      have a2 := List.all_eq_true.mp nt i m
      unfold inE at a1
      split at a1
      · rename_i t ht
        rw [ht] at a2
        obtain ⟨w, _, ro⟩ := f.rep i t ht
        exact absurd ((kk a ⟨i, c, hi⟩).2.symm.trans e) (RO.noT a2 ro a hi vs)
      · cases a1
    · rw [onK_out k]; exact e
theorem mix_slots {F F' : Nat → List Addr} (r : Rep K mg B G H σ ρ) (f : Slots K mg B G H σ ρ F) (ok : ks.all (inE ρ) = true) (hkm : kv.map (·.1) = ks) (hk : ∀ q ∈ kv, σ[q.1]? = some (some q.2)) (g' : Gr ⟨onK ks F H B.O, onK ks F H G, kv ++ B.io⟩ G' H' σ') (f' : Slots K mg ⟨onK ks F H B.O, onK ks F H G, kv ++ B.io⟩ G' H' σ' ρ' F') :
    Slots K mg B (onK ks F G G') H' σ' (mixE (noK ks ρ) ks 0 ρ ρ') (fun i => if ks.contains i = true then F i else F' i) := by
  obtain ⟨gg, _, kk⟩ := mix_core r f g'
  have new : ∀ {i p}, p ∈ F' i → ¬KA ks F p ∧ B.O p = none := fun {i p} hp => by
    have h := (f'.at_ i p hp).2.2
    by_cases k : KA ks F p
    · have : H p = none := (onK_in (A := H) (C := B.O) k).symm.trans h
      obtain ⟨j, _, z⟩ := k
      exact absurd this (f.at_ j p z).1
    · exact ⟨k, (onK_out (A := H) (C := B.O) k).symm.trans h⟩
  refine ⟨fun i t e => ?_, fun i => ?_, fun i p hp => ?_, fun i j p ne hp hq => ?_⟩
  · rcases mixE_get e with ⟨c, e⟩ | ⟨c, ft, e⟩
    · rw [Nat.zero_add] at c
      obtain ⟨v, hv, ro⟩ := f.rep i t e
      obtain ⟨q, hq, rfl⟩ : ∃ q ∈ kv, q.1 = i := by
        have : i ∈ kv.map (·.1) := by rw [hkm]; exact List.contains_iff_mem.mp c
        simpa using this
      have h1 := hk q hq
      rw [hv] at h1
      have h1 := Option.some.inj (Option.some.inj h1)
      refine ⟨v, ?_, ?_⟩
      · rw [h1]; exact g'.io q (List.mem_append_left _ hq)
      · rw [if_pos c]
        exact ro.frame gg fun p hp => (kk p ⟨q.1, c, hp⟩).1
    · rw [Nat.zero_add] at c
      obtain ⟨v, hv, ro⟩ := f'.rep i t e
      rw [if_neg (by rw [c]; exact Bool.false_ne_true)]
      exact ⟨v, hv, okT_imm f ok kk ft ro⟩
  · (try dsimp only); split
    · exact f.nd i
    · exact f'.nd i
  · (try dsimp only at hp ⊢)
    split at hp
    · rename_i c
      obtain ⟨a, b, o⟩ := f.at_ i p hp
      have k : KA ks F p := ⟨i, c, hp⟩
      exact ⟨by rw [(kk p k).1]; exact a, (onK_in k).trans b, o⟩
    · obtain ⟨a, b, _⟩ := f'.at_ i p hp
      obtain ⟨n, o⟩ := new hp
      exact ⟨a, (onK_out n).trans b, o⟩
  · (try dsimp only at hp hq)
    split at hp
    · rename_i c
      split at hq
      · exact f.dj i j p ne hp hq
      · exact (new hq).1 ⟨i, c, hp⟩
    · split at hq
      · rename_i c
        exact (new hp).1 ⟨j, c, hq⟩
      · exact f'.dj i j p ne hp hq
theorem Rep.mix {F : Nat → List Addr} (r : Rep K mg B G H σ ρ) (f : Slots K mg B G H σ ρ F) (ok : ks.all (inE ρ) = true) (hkm : kv.map (·.1) = ks) (hk : ∀ q ∈ kv, σ[q.1]? = some (some q.2)) (hl : ρ'.length = ρ.length) (r' : Rep K mg ⟨onK ks F H B.O, onK ks F H G, kv ++ B.io⟩ G' H' σ' ρ') : Rep K mg B (onK ks F G G') H' σ' (mixE (noK ks ρ) ks 0 ρ ρ') := by
  obtain ⟨F', f'⟩ := r'.sl
  exact ⟨(mix_core r f r'.g).2.1, (mixE_len hl).trans r'.len, _, mix_slots r f ok hkm hk r'.g f'⟩
theorem Rep.mixV {F : Nat → List Addr} {t : OT} {v : V} (r : Rep K mg B G H σ ρ) (f : Slots K mg B G H σ ρ F) (ok : ks.all (inE ρ) = true) (hkm : kv.map (·.1) = ks) (hk : ∀ q ∈ kv, σ[q.1]? = some (some q.2)) (hl : ρ'.length = ρ.length) (ft : okT (noK ks ρ) t = true) (r' : RepV K mg ⟨onK ks F H B.O, onK ks F H G, kv ++ B.io⟩ G' H' σ' ρ' t v) : RepV K mg B (onK ks F G G') H' σ' (mixE (noK ks ρ) ks 0 ρ ρ') t v := by
  obtain ⟨F', fv, f', a, b, c, d⟩ := r'.sl
  obtain ⟨gg, gr, kk⟩ := mix_core r f r'.g
  have new : ∀ {p}, p ∈ fv → ¬KA ks F p ∧ B.O p = none := fun {p} hp => by
    have h := (c p hp).2.2
    by_cases k : KA ks F p
    · have : H p = none := (onK_in (A := H) (C := B.O) k).symm.trans h
      obtain ⟨j, _, z⟩ := k
      exact absurd this (f.at_ j p z).1
    · exact ⟨k, (onK_out (A := H) (C := B.O) k).symm.trans h⟩
  refine ⟨gr, (mixE_len hl).trans r'.len, _, fv, mix_slots r f ok hkm hk r'.g f', okT_imm f ok kk ft a, b, fun p hp => ?_, fun i p hp hi => ?_⟩
  · obtain ⟨x, y, _⟩ := c p hp
    obtain ⟨n, o⟩ := new hp
    exact ⟨x, (onK_out n).trans y, o⟩
  · (try dsimp only at hi)
    split at hi
    · rename_i k
      exact (new hp).1 ⟨i, k, hi⟩
    · exact d i p hp hi
end
theorem mixF_out {X : Cx} {W : WW} {B : Bs} {N : Ends} {nt : Bool} {ks : List Nat} {ρ ρ' : En} {k : En → Flw} (h : Out X W B N (mixF nt ks ρ ρ' k)) : ρ'.length = ρ.length ∧ Out X W B N (k (mixE nt ks 0 ρ ρ')) := by
  unfold mixF at h
  split at h
  · rename_i e; exact ⟨e, h⟩
  · exact h.elim
theorem S1.bor {X : Cx} {W : WW} {io : List Nat} {st : Stmt} {F : En → Flw} (ks : List Nat) (h : S1 X W (ks ++ io) st F) : S1 X W io st (borF ks F) := ⟨fun B hB => ⟨fun pins s σ H D I ⟨G, ρ, r, w⟩ => by
  unfold borF at w
  split at w
  · rename_i ok
    obtain ⟨kv, hkm, hk⟩ := r.vals ok
    obtain ⟨FF, f⟩ := r.sl
    obtain ⟨g1, r1⟩ := r.under (ks := ks) f hk
    refine (h.run ⟨onK ks FF H B.O, onK ks FF H G, kv ++ B.io⟩ (by rw [List.map_append, hkm, hB])).run pins s σ H D I ⟨_, frzK ks 0 ρ, r1, ?_⟩
    cases e : F (frzK ks 0 ρ) with
    | nx ρ' =>
      rw [e] at w
      obtain ⟨hl, w⟩ := mixF_out w
      exact fun σ' G' H' r' => w σ' _ H' (r.mix f ok hkm hk hl r')
    | bk ρ' =>
      rw [e] at w
      obtain ⟨hl, w⟩ := mixF_out w
      exact fun σ' G' H' r' => w σ' _ H' (r.mix f ok hkm hk hl r')
    | ct ρ' =>
      rw [e] at w
      obtain ⟨hl, w⟩ := mixF_out w
      exact fun σ' G' H' r' => w σ' _ H' (r.mix f ok hkm hk hl r')
    | rt t ρ' =>
      rw [e] at w
      have w : Out X W B D (if okT (noK ks ρ) t = true then mixF (noK ks ρ) ks ρ ρ' (.rt t) else .bad) := w
      split at w
      · rename_i ft
        obtain ⟨hl, w⟩ := mixF_out w
        exact fun v σ' G' H' r' => w v σ' _ H' (r.mixV f ok hkm hk hl ft r')
      · exact w.elim
    | ex x ρ' =>
      rw [e] at w
      have w : Out X W B D (match x.p with | none => mixF (noK ks ρ) ks ρ ρ' (.ex x) | some _ => .bad) := w
      split at w
      · rename_i ep
        obtain ⟨hl, w1, w⟩ := mixF_out w
        refine ⟨w1, fun σ' G' H' cls dd r' q => w σ' _ H' cls dd (r.mix f ok hkm hk hl r') ⟨q.1, ?_⟩⟩
        have q2 := q.2
        rw [ep] at q2 ⊢
        exact q2
      · exact w.elim
    | bad => rw [e] at w; exact w.elim
  · exact w.elim⟩⟩
end FL
/-! The functional layer, part PK: a loop over the owned parts of an owned list. -/
namespace FL
open PySem PySem.Spec PyProof.Rows L2
section
variable {K : PySem.W.Frag} {mg : Str → Option Value} {B : Bs} {G H : Hp} {σ : L2.St} {ρ : En} {s i j : Nat} {t0 tj : OT} {p : List Nat} {us : List OT}
/-- a part is lent to another slot, and taken back -/
theorem Rep.lend (r : Rep K mg B G H σ ρ) (e : ρ[s]? = some (some t0)) (es : t0.sub p = some (.lst us)) (ej : us[j]? = some tj) : ∃ v0 b ws vj O', σ[s]? = some (some v0) ∧ walkV H v0 p = some (.ref b) ∧ H b = some (.lst ws) ∧ ws.length = us.length ∧ ws[j]? = some vj ∧
    RepV K mg ⟨O', G, (s, v0) :: B.io⟩ G H σ (ρ.set s none) tj vj ∧
    ∀ G' H' σ' ρ2 t', Rep K mg ⟨O', G, (i, vj) :: (s, v0) :: B.io⟩ G' H' σ' ρ2 → ρ2[i]? = some (some t') → walkV H' v0 p = some (.ref b) ∧ Rep K mg B G' H' σ' ((ρ2.set s (some (t0.put p (.lst (us.set j t'))))).set i none) ∧
      ∀ (t : OT) (v : V), RepV K mg ⟨O', G, (i, vj) :: (s, v0) :: B.io⟩ G' H' σ' ρ2 t v → RepV K mg B G' H' σ' ((ρ2.set s (some (t0.put p (.lst (us.set j t'))))).set i none) t v := by
  obtain ⟨F, f⟩ := r.sl
  obtain ⟨v0, hv, hr⟩ := f.rep s _ e
  obtain ⟨v', g1, f', g2, h1, h2, h3, h4⟩ := hr.ctx es
  obtain ⟨b, ws, gs, rfl, rfl, l, hb, ro⟩ := id h3
  obtain ⟨vj, f1, fj, f2, hw, rfl, rj, bk⟩ := ro.at ej
  have P : List Addr := []
  -- what is kept aside
  let O' : Hp := fun x => if x ∈ g1 ++ (b :: f1 ++ f2) ++ g2 then H x else B.O x
  have nd := f.nd s
  have sF : ∀ x, x ∈ g1 ++ (b :: f1 ++ f2) ++ g2 → x ∈ F s := fun x hx => by
    rw [h2]
    simp only [List.mem_append, List.mem_cons] at hx ⊢
    rcases hx with (hx | (hx | hx) | hx) | hx <;> simp [hx]
  have jF : ∀ x, x ∈ fj → x ∈ F s := fun x hx => by
    rw [h2]
    simp [hx]
  have nj : ∀ x, x ∈ fj → x ∉ g1 ++ (b :: f1 ++ f2) ++ g2 := fun x hx hz => by
    rw [h2] at nd
    simp only [List.nodup_append, List.nodup_cons, List.mem_append, List.mem_cons, List.cons_append] at nd hz
    obtain ⟨n1, ⟨m1, ⟨n2, ⟨n3, n4, d4⟩, d3⟩, n5, d5⟩, d1⟩ := nd
    rcases hz with (hz | hz | hz | hz) | hz
    · exact d1 x hz x (.inr (.inl (.inr (.inl hx)))) rfl
    · subst hz; exact m1 (.inl (.inr (.inl hx)))
    · exact d3 x hz x (.inl hx) rfl
    · exact d4 x hx x hz rfl
    · exact d5 x (.inr (.inl hx)) x hz rfl
  have Oin : ∀ x, x ∈ g1 ++ (b :: f1 ++ f2) ++ g2 → O' x = H x ∧ H x ≠ none ∧ G x = none ∧ B.O x = none := fun x hx => by
    obtain ⟨a1, a2, a3⟩ := f.at_ s x (sF x hx)
    exact ⟨if_pos hx, a1, a2, a3⟩
  have Oout : ∀ x, O' x = none → x ∉ g1 ++ (b :: f1 ++ f2) ++ g2 ∧ B.O x = none := fun x hx => by
    by_cases hm : x ∈ g1 ++ (b :: f1 ++ f2) ++ g2
    · obtain ⟨a1, a2, _⟩ := Oin x hm
      exact absurd (a1 ▸ hx) a2
    · exact ⟨hm, (if_neg hm).symm.trans hx⟩
  have Ooh : Same O' H := fun x o h => by
    by_cases hm : x ∈ g1 ++ (b :: f1 ++ f2) ++ g2
    · rw [← (Oin x hm).1]; exact h
    · exact r.g.oh x o ((if_neg hm).symm.trans h)
  have OB : Same B.O O' := fun x o h => by
    by_cases hm : x ∈ g1 ++ (b :: f1 ++ f2) ++ g2
    · rw [(Oin x hm).2.2.2] at h; cases h
    · exact (if_neg hm).trans h
  refine ⟨v0, b, ws, vj, O', hv, h1, hb, ro.len, hw, ?_, fun G' H' σ' ρ2 t' r' e' => ?_⟩
  · refine ⟨⟨r.gh, Ooh, Same.refl _, fun _ _ => rfl, fun q hq => ?_⟩, by rw [List.length_set]; exact r.len, fun k => if k = s then [] else F k, fj, ⟨fun k u ek => ?_, fun k => ?_, fun k x hx => ?_, fun k k2 x ne hx hk => ?_⟩, rj, ?_, fun x hx => ?_, fun k x hx hk => ?_⟩
    · rcases List.mem_cons.mp hq with rfl | hq
      · exact hv
      · exact r.g.io q hq
    · rcases get_set ek with ⟨_, _, e2⟩ | ⟨ne, ek⟩
      · cases e2
      · rw [if_neg (fun z => ne z.symm)]; exact f.rep k u ek
    · (try dsimp only); split
      · exact List.nodup_nil
      · exact f.nd k
    · (try dsimp only at hx); split at hx
      · exact absurd hx (by simp)
      · rename_i ne
        obtain ⟨a1, a2, a3⟩ := f.at_ k x hx
        exact ⟨a1, a2, (if_neg fun hm => f.dj k s x ne hx (sF x hm)).trans a3⟩
    · (try dsimp only at hx hk)
      split at hx
      · exact absurd hx (by simp)
      · split at hk
        · exact absurd hk (by simp)
        · exact f.dj k k2 x ne hx hk
    · rw [h2] at nd
      simp only [List.nodup_append, List.nodup_cons, List.cons_append] at nd
      exact nd.2.1.2.1.2.1.1
    · obtain ⟨a1, a2, a3⟩ := f.at_ s x (jF x hx)
      exact ⟨a1, a2, (if_neg (nj x hx)).trans a3⟩
    · (try dsimp only at hk); split at hk
      · exact absurd hk (by simp)
      · rename_i ne; exact f.dj k s x ne hk (jF x hx)
  · have core : ∀ F', Slots K mg ⟨O', G, (i, vj) :: (s, v0) :: B.io⟩ G' H' σ' ρ2 F' → ρ2.length = σ'.length → Gr ⟨O', G, (i, vj) :: (s, v0) :: B.io⟩ G' H' σ' → walkV H' v0 p = some (.ref b) ∧ Gr B G' H' σ' ∧
        Slots K mg B G' H' σ' ((ρ2.set s (some (t0.put p (.lst (us.set j t'))))).set i none) (fun k => if k = s then g1 ++ ((b :: (f1 ++ (F' i ++ f2))) ++ g2) else if k = i then [] else F' k) := fun F' f' hl g' => by
      have keep : ∀ x, x ∈ g1 ++ (b :: f1 ++ f2) ++ g2 → H' x = H x ∧ G' x = none := fun x hx => by
        obtain ⟨a1, a2, a3, _⟩ := Oin x hx
        have hO : O' x ≠ none := by rw [a1]; exact a2
        exact ⟨(same_at g'.oh hO).trans a1, (g'.og x hO).trans a3⟩
      have hi : σ'[i]? = some (some vj) := g'.io _ List.mem_cons_self
      have hs : σ'[s]? = some (some v0) := g'.io _ (List.mem_cons_of_mem _ List.mem_cons_self)
      obtain ⟨w, hw', rt⟩ := f'.rep i t' e'
      rw [hi] at hw'
      cases hw'
      have fresh : ∀ x, x ∈ F' i → x ∉ g1 ++ (b :: f1 ++ f2) ++ g2 := fun x hx => (Oout x (f'.at_ i x hx).2.2).1
      have q1 := bk G' H' t' vj (F' i) g'.g0 (fun x hx => (keep x (by rcases hx with hx | hx <;> simp [hx])).1) rt
      rw [set_self hw] at q1
      have q2 : RO K mg G' H' (.lst (us.set j t')) (.ref b) (b :: (f1 ++ (F' i ++ f2))) := ⟨b, ws, _, rfl, rfl, by rw [List.length_set]; exact l, by rw [(keep b (by simp)).1]; exact hb, q1⟩
      obtain ⟨q3, q4⟩ := h4 G' H' _ _ g'.g0 (fun x hx => (keep x (by rcases hx with hx | hx <;> simp [hx])).1) q2
      have memS : ∀ x, x ∈ g1 ++ ((b :: (f1 ++ (F' i ++ f2))) ++ g2) → x ∈ g1 ++ (b :: f1 ++ f2) ++ g2 ∨ x ∈ F' i := fun x hx => by
        simp only [List.mem_append, List.mem_cons, List.cons_append] at hx ⊢
        rcases hx with hx | hx | (hx | hx | hx) | hx <;> simp [hx]
      refine ⟨q3, ⟨g'.gh, OB.trans g'.oh, r.g.g0.trans g'.g0, fun x hx => ?_, fun q hq => g'.io q (List.mem_cons_of_mem _ (List.mem_cons_of_mem _ hq))⟩, fun k u ek => ?_, fun k => ?_, fun k x hx => ?_, fun k k2 x ne hx hk => ?_⟩
      · have hO : O' x ≠ none := live_of OB hx
        exact (g'.og x hO).trans (r.g.og x hx)
      · rcases get_set ek with ⟨_, _, e2⟩ | ⟨ni, ek⟩
        · cases e2
        · rcases get_set ek with ⟨e1, hlt, e2⟩ | ⟨ns, ek⟩
          · subst e1; cases e2
            exact ⟨v0, hs, by rw [if_pos rfl]; exact q4⟩
          · rw [if_neg (fun z => ns z.symm), if_neg (fun z => ni z.symm)]
            exact f'.rep k u ek
      · (try dsimp only); split
        · have n0 := f'.nd i
          rw [h2] at nd
          simp only [List.nodup_append, List.nodup_cons, List.mem_append, List.mem_cons, List.cons_append] at nd ⊢
          obtain ⟨n1, ⟨m1, ⟨n2, ⟨n3, n4, d4⟩, d3⟩, n5, d5⟩, d1⟩ := nd
          have fr := fun x hx => fresh x hx
          simp only [List.mem_append, List.mem_cons, List.cons_append, not_or] at fr
          refine ⟨n1, ⟨?_, ⟨n2, ⟨n0, n4, fun a ha c hc z => ?_⟩, fun a ha c hc z => ?_⟩, n5, fun a ha c hc z => ?_⟩, fun a ha c hc z => ?_⟩
          · rintro ((z | z | z) | z)
            · exact m1 (.inl (.inl z))
            · exact (fr b z).1.2.1 rfl
            · exact m1 (.inl (.inr (.inr z)))
            · exact m1 (.inr z)
          · subst z; exact (fr a ha).1.2.2.2 hc
          · subst z
            rcases hc with hc | hc
            · exact (fr a hc).1.2.2.1 ha
            · exact d3 a ha a (.inr hc) rfl
          · subst z
            rcases ha with ha | ha | ha
            · exact d5 a (.inl ha) a hc rfl
            · exact (fr a ha).2 hc
            · exact d5 a (.inr (.inr ha)) a hc rfl
          · subst z
            rcases hc with hc | (hc | hc | hc) | hc
            · exact d1 a ha a (.inl hc) rfl
            · exact d1 a ha a (.inr (.inl (.inl hc))) rfl
            · exact (fr a hc).1.1 ha
            · exact d1 a ha a (.inr (.inl (.inr (.inr hc)))) rfl
            · exact d1 a ha a (.inr (.inr hc)) rfl
        · split
          · exact List.nodup_nil
          · exact f'.nd k
      · (try dsimp only at hx); split at hx
        · rcases memS x hx with hm | hm
          · obtain ⟨a1, a2, a3, a4⟩ := Oin x hm
            obtain ⟨b1, b2⟩ := keep x hm
            exact ⟨by rw [b1]; exact a2, b2, a4⟩
          · obtain ⟨a1, a2, a3⟩ := f'.at_ i x hm
            exact ⟨a1, a2, (Oout x a3).2⟩
        · split at hx
          · exact absurd hx (by simp)
          · obtain ⟨a1, a2, a3⟩ := f'.at_ k x hx
            exact ⟨a1, a2, (Oout x a3).2⟩
      · (try dsimp only at hx hk)
        have sep : ∀ {a x}, a ≠ i → x ∈ g1 ++ ((b :: (f1 ++ (F' i ++ f2))) ++ g2) → x ∈ F' a → False := fun {a x} na hx hy => by
          rcases memS x hx with hm | hm
          · exact (Oout x (f'.at_ a x hy).2.2).1 hm
          · exact f'.dj a i x na hy hm
        split at hx
        · split at hk
          · rename_i z1 z2; exact ne (z1.trans z2.symm)
          · split at hk
            · exact absurd hk (by simp)
            · rename_i ni; exact sep ni hx hk
        · split at hx
          · exact absurd hx (by simp)
          · rename_i ni
            split at hk
            · exact sep ni hk hx
            · split at hk
              · exact absurd hk (by simp)
              · exact f'.dj k k2 x ne hx hk
    obtain ⟨F', f'⟩ := r'.sl
    obtain ⟨c1, c2, c3⟩ := core F' f' r'.len r'.g
    refine ⟨c1, ⟨c2, by rw [List.length_set, List.length_set]; exact r'.len, _, c3⟩, fun t v rv => ?_⟩
    obtain ⟨F2, fv, f2', a, b', c, d⟩ := rv.sl
    obtain ⟨c1, c2, c3⟩ := core F2 f2' rv.len rv.g
    refine ⟨c2, by rw [List.length_set, List.length_set]; exact rv.len, _, fv, c3, a, b', fun x hx => ?_, fun k x hx hk => ?_⟩
    · obtain ⟨a1, a2, a3⟩ := c x hx
      exact ⟨a1, a2, (Oout x a3).2⟩
    · (try dsimp only at hk)
      split at hk
      · have hO := (Oout x (c x hx).2.2).1
        simp only [List.mem_append, List.mem_cons, List.cons_append, not_or] at hO hk
        rcases hk with hk | hk | (hk | hk | hk) | hk
        · exact hO.1.1 hk
        · exact hO.1.2.1 hk
        · exact hO.1.2.2.1 hk
        · exact d i x hx hk
        · exact hO.1.2.2.2 hk
        · exact hO.2 hk
      · split at hk
        · exact absurd hk (by simp)
        · exact d k x hx hk
end
/-- the slots behind a turn -/
def backM (s i : Nat) (p : List Nat) (t0 : OT) (us : List OT) (j : Nat) (ρ : En) (k : En → Flw) : Flw := match ρ[i]? with
  | some (some t') => k ((ρ.set s (some (t0.put p (.lst (us.set j t'))))).set i none)
  | _ => .bad
def forMJ (s i : Nat) (p : List Nat) (body : En → Flw) : Nat → Nat → En → Flw
  | 0, _, ρ => .nx ρ
  | m + 1, j, ρ => if i < ρ.length then match ρ[s]? with
    | some (some t0) => match t0.sub p with
      | some (.lst us) => match us[j]? with
        | some tj => match body ((ρ.set s none).set i (some tj)) with
          | .nx ρ2 => backM s i p t0 us j ρ2 (forMJ s i p body m (j + 1))
          | .ct ρ2 => backM s i p t0 us j ρ2 (forMJ s i p body m (j + 1))
          | .bk ρ2 => backM s i p t0 us j ρ2 .nx
          | .rt t ρ2 => backM s i p t0 us j ρ2 (.rt t)
          | .ex x ρ2 => backM s i p t0 us j ρ2 (.ex x)
          | .bad => .bad
        | none => .bad
      | _ => .bad
    | _ => .bad else .bad
def forW (s i : Nat) (fp : En → Res (List Nat)) (body : En → Flw) (ρ : En) : Flw := bindF (fp ρ) ρ fun p => match ρ[s]? with
  | some (some t0) => match t0.sub p with
    | some (.lst us) => forMJ s i p body us.length 0 ρ
    | _ => .bad
  | _ => .bad
theorem backM_out {X : Cx} {W : WW} {B : Bs} {N : Ends} {s i j : Nat} {p : List Nat} {t0 : OT} {us : List OT} {ρ : En} {k : En → Flw} (h : Out X W B N (backM s i p t0 us j ρ k)) : ∃ t', ρ[i]? = some (some t') ∧ Out X W B N (k ((ρ.set s (some (t0.put p (.lst (us.set j t'))))).set i none)) := by
  unfold backM at h
  split at h
  · rename_i t' e; exact ⟨t', e, h⟩
  · exact h.elim
section
variable {X : Cx} {W : WW} {io : List Nat} {e : Expr} {body : List Stmt} {pos ppos : Pos} {x : Str} {F : En → Flw} {fp : En → Res (List Nat)}
theorem S1.forM (s i : Nat) (hp : PassesOwn (model X.prog X.w) X.A X.env X.xe) (hc : X.calm = true) (he : EP X W s e fp) (hN : X.N.Nodup) (hb : SS X W (i :: s :: io) body F) (hne : i ≠ s := by decide) (hio : i ∉ io := by decide)
    (hi : X.N[i]? = some x := by rfl) (hx : Loc X.env.scope x := by first | exact .inl rfl | exact .inr rfl) (hf : X.fn x = true ∨ X.env.scope.names.lookup x = some .local := by first | exact .inl rfl | exact .inr rfl)
    (hs : ∀ x, foldedSetIterable e X.env x = pure x := by intro _; rfl) : S1 X W io (.For (.Name x ppos) e body [] pos) (FL.forW s i fp F) := ⟨fun B hB => PS.mono (ps_for hp hc (pi_list (he.run B)) (pg_name hN hi hx hf) hb.any hs) fun N σ H ⟨G, ρ, r, h⟩ => by
  unfold forW at h
  refine lift.of (rel := relW σ s) (g := fp) r h fun p v G1 H1 r1 s1 q1 o => ?_
  split at o
  · rename_i t0 e0
    split at o
    · rename_i us es
      obtain ⟨v0, c, ws, gs, h1, h2, h3, h4, h5, _⟩ := r1.path e0 es
      obtain ⟨v1, g1, g2⟩ := q1
      rw [h1] at g1
      cases g1
      rw [h2] at g2
      cases g2
      refine ⟨c, rfl, ⟨ws, SqL.of h4⟩, fun j m σ H => m = us.length - j ∧ j ≤ us.length ∧ ∃ G ρ t0 us', Rep X.K X.mg B G H σ ρ ∧ ρ[s]? = some (some t0) ∧ t0.sub p = some (.lst us') ∧ us'.length = us.length ∧ σ[s]? = some (some v0) ∧ walkV H v0 p = some (.ref c) ∧ Out X W B N (forMJ s i p F (us.length - j) j ρ), ⟨us.length, rfl, Nat.zero_le _, G1, ρ, t0, us, r1, e0, es, rfl, h1, h2, o⟩, ?_⟩
      rintro j m σ2 H2 ⟨rfl, hj, G2, ρ2, t2, us2, r2, e2, es2, l2, k1, k2, o2⟩
      obtain ⟨v0', c', ws2, gs2, m1, m2, m3, m4, m5, _⟩ := r2.path e2 es2
      rw [k1] at m1
      cases m1
      rw [k2] at m2
      cases m2
      by_cases hlt : j < us.length
      · obtain ⟨tj, ej⟩ : ∃ tj, us2[j]? = some tj := ⟨_, List.getElem?_eq_getElem (by omega)⟩
        obtain ⟨v0', c', ws', vj, O', n1, n2, n3, n4, n5, n6, n7⟩ := r2.lend (i := i) e2 es2 ej
        rw [k1] at n1
        cases n1
        rw [k2] at n2
        cases n2
        refine .inr ⟨⟨ws', vj, SqL.of n3, n5⟩, fun σ' H' => j + 1 ≤ us.length ∧ ∃ G ρ t0 us', Rep X.K X.mg B G H' σ' ρ ∧ ρ[s]? = some (some t0) ∧ t0.sub p = some (.lst us') ∧ us'.length = us.length ∧ σ'[s]? = some (some v0) ∧ walkV H' v0 p = some (.ref c) ∧ Out X W B N (forMJ s i p F (us.length - (j + 1)) (j + 1) ρ), fun σ' H' n => ⟨us.length - (j + 1), by omega, rfl, n⟩, fun y H' ⟨z1, z2⟩ => ?_⟩
        subst z1
        have z3 := z2 ws' (SqL.of n3)
        rw [n5] at z3
        cases z3
        rw [show us.length - j = (us.length - (j + 1)) + 1 by omega] at o2
        unfold forMJ at o2
        split at o2
        · rename_i il
          rw [e2] at o2
          dsimp only at o2
          rw [es2] at o2
          dsimp only at o2
          rw [ej] at o2
          dsimp only at o2
          have r3 := n6.set (i := i) (fun q hq z => by
            rcases List.mem_cons.mp hq with rfl | hq
            · exact hne z.symm
            · exact hio (by rw [← hB, ← z]; exact List.mem_map_of_mem hq))
          have il2 : i < σ2.length := by rw [← r2.len]; exact il
          have r4 : Rep X.K X.mg ⟨O', G2, (i, vj) :: (s, v0) :: B.io⟩ G2 H' (σ2.set i (some vj)) ((ρ2.set s none).set i (some tj)) := by
            obtain ⟨F3, f3⟩ := r3.sl
            refine ⟨⟨r3.g.gh, r3.g.oh, r3.g.g0, r3.g.og, fun q hq => ?_⟩, r3.len, F3, ⟨f3.rep, f3.nd, f3.at_, f3.dj⟩⟩
            rcases List.mem_cons.mp hq with rfl | hq
            · rw [List.getElem?_set_self il2]
            · exact r3.g.io q hq
          refine ⟨⟨O', G2, (i, vj) :: (s, v0) :: B.io⟩, by rw [← hB]; rfl, G2, _, r4, ?_⟩
          have fin : ∀ {σ' G' H' ρ4}, Rep X.K X.mg ⟨O', G2, (i, vj) :: (s, v0) :: B.io⟩ G' H' σ' ρ4 → σ'[s]? = some (some v0) := fun r => r.g.io (s, v0) (List.mem_cons_of_mem _ List.mem_cons_self)
          have turn : ∀ {ρ4}, Out X W B N (backM s i p t2 us2 j ρ4 (forMJ s i p F (us.length - (j + 1)) (j + 1))) → ∀ σ G H, Rep X.K X.mg ⟨O', G2, (i, vj) :: (s, v0) :: B.io⟩ G H σ ρ4 →
              j + 1 ≤ us.length ∧ ∃ G' ρ' t' us', Rep X.K X.mg B G' H σ ρ' ∧ ρ'[s]? = some (some t') ∧ t'.sub p = some (.lst us') ∧ us'.length = us.length ∧ σ[s]? = some (some v0) ∧ walkV H v0 p = some (.ref c) ∧ Out X W B N (forMJ s i p F (us.length - (j + 1)) (j + 1) ρ') := fun h σ G H r => by
            obtain ⟨t', et, o⟩ := backM_out h
            obtain ⟨w1, w2, _⟩ := n7 G H σ _ t' r et
            have sl := (List.getElem?_eq_some_iff.mp (fin r)).1
            rw [← r.len] at sl
            refine ⟨hlt, G, _, t2.put p (.lst (us2.set j t')), us2.set j t', w2, ?_, sub_put es2, by rw [List.length_set]; exact l2, fin r, w1, o⟩
            rw [List.getElem?_set_ne hne, List.getElem?_set_self sl]
          cases ef : F ((ρ2.set s none).set i (some tj)) with
          | nx ρ4 => rw [ef] at o2; exact turn o2
          | ct ρ4 => rw [ef] at o2; exact turn o2
          | bk ρ4 =>
            rw [ef] at o2
            obtain ⟨t', et, o⟩ := backM_out o2
            exact fun σ G H r => o σ G H (n7 G H σ _ t' r et).2.1
          | rt t ρ4 =>
            rw [ef] at o2
            obtain ⟨t', et, o⟩ := backM_out o2
            exact fun v σ G H r => o v σ G H ((n7 G H σ _ t' r.rep et).2.2 t v r)
          | ex x ρ4 =>
            rw [ef] at o2
            obtain ⟨t', et, o⟩ := backM_out o2
            exact ⟨o.1, fun σ G H cls dd r => o.2 σ G H cls dd (n7 G H σ _ t' r et).2.1⟩
          | bad => rw [ef] at o2; exact o2.elim
        · exact o2.elim
      · have : us.length - j = 0 := by omega
        rw [this] at o2
        exact .inl ⟨⟨ws2, SqL.of m4, by have := m5.len; omega⟩, o2 _ _ _ r2⟩
    · exact o.elim
  · exact o.elim⟩
end
end FL
/-! The functional layer, part PL: arguments moved or lent to a def; what is held meanwhile. -/
namespace FL
open PySem PySem.Spec PyProof.Rows L2
/-- an argument: the callee's own, or a part of a slot that is lent -/
inductive ArgT where
  | own (t : OT) | lent (s : Nat) (t0 : OT) (p : List Nat)
def argT : ArgT → Option OT
  | .own t => some t
  | .lent _ t0 p => t0.sub p
def maskOf : List ArgT → List Bool
  | [] => []
  | .own _ :: as => false :: maskOf as
  | .lent _ _ _ :: as => true :: maskOf as
def argTs : List ArgT → Option (List OT)
  | [] => some []
  | a :: as => (argT a).bind fun t => (argTs as).map (t :: ·)
/-- the items where the mask is true -/
def pick {α : Type} : List Bool → List α → List α
  | true :: m, v :: vs => v :: pick m vs
  | false :: m, _ :: vs => pick m vs
  | _, _ => []
/-- the slots lent, with what they have then -/
def lents : List ArgT → List OT → Option (List (Nat × OT))
  | [], [] => some []
  | .own _ :: as, outs => lents as outs
  | .lent s t0 p :: as, o :: outs => (lents as outs).map ((s, t0.put p o) :: ·)
  | _, _ => none
def setAll : List (Nat × OT) → En → En
  | [], ρ => ρ
  | q :: l, ρ => setAll l (ρ.set q.1 (some q.2))
theorem setAll_len : ∀ (l : List (Nat × OT)) (ρ : En), (setAll l ρ).length = ρ.length
  | [], _ => rfl
  | q :: l, ρ => by rw [setAll, setAll_len, List.length_set]
section
variable (K : PySem.W.Frag) (mg : Str → Option Value)
def RA1 (G H : Hp) (σ : L2.St) : ArgT → V → List Addr → Prop
  | .own t, v, fp => RO K mg G H t v fp
  | .lent s t0 p, v, fp => ∃ v0 u, σ[s]? = some (some v0) ∧ RO K mg G H t0 v0 fp ∧ t0.sub p = some u ∧ walkV H v0 p = some v
def RAs (G H : Hp) (σ : L2.St) : List ArgT → List V → List Addr → Prop
  | [], vs, fp => vs = [] ∧ fp = []
  | a :: as, vs, fp => ∃ v r f1 f2, vs = v :: r ∧ fp = f1 ++ f2 ∧ RA1 K mg G H σ a v f1 ∧ RAs G H σ as r f2
def LB (G H : Hp) (σ : L2.St) : List (Nat × OT) → List Addr → Prop
  | [], fp => fp = []
  | q :: l, fp => ∃ v0 f1 f2, fp = f1 ++ f2 ∧ σ[q.1]? = some (some v0) ∧ RO K mg G H q.2 v0 f1 ∧ LB G H σ l f2
structure RepA (B : Bs) (G H : Hp) (σ : L2.St) (ρ : En) (as : List ArgT) (vs : List V) : Prop where
  g : Gr B G H σ
  len : ρ.length = σ.length
  sl : ∃ F fv, Slots K mg B G H σ ρ F ∧ RAs K mg G H σ as vs fv ∧ fv.Nodup ∧ (∀ p ∈ fv, H p ≠ none ∧ G p = none ∧ B.O p = none) ∧ ∀ i p, p ∈ fv → p ∉ F i
end
section
variable {K : PySem.W.Frag} {mg : Str → Option Value} {B : Bs} {G H G' H' : Hp} {σ σ' : L2.St} {ρ ρ' : En}
theorem RA1.frame {a : ArgT} {v : V} {fp : List Addr} (g : Same G G') (h : RA1 K mg G H σ a v fp) (f : ∀ p ∈ fp, H' p = H p) : RA1 K mg G' H' σ a v fp := by
  cases a with
  | own t => exact RO.frame g f h
  | lent s t0 p =>
    obtain ⟨v0, u, h1, h2, h3, h4⟩ := h
    refine ⟨v0, u, h1, RO.frame g f h2, h3, ?_⟩
    obtain ⟨v', g1, f', g2, a1, a2, a3, a4⟩ := h2.ctx h3
    rw [h4] at a1
    cases a1
    exact (a4 G' H' u f' g (fun x hx => f x (by rw [a2]; rcases hx with hx | hx <;> simp [hx])) (a3.frame g fun x hx => f x (by rw [a2]; simp [hx]))).1
theorem RAs.frame (g : Same G G') : ∀ {as : List ArgT} {vs : List V} {fp : List Addr}, RAs K mg G H σ as vs fp → (∀ p ∈ fp, H' p = H p) → RAs K mg G' H' σ as vs fp
  | [], _, _, h, _ => h
  | _ :: _, _, _, ⟨v, r, f1, f2, e1, e2, h, q⟩, f => ⟨v, r, f1, f2, e1, e2, h.frame g fun p hp => f p (by rw [e2]; simp [hp]), RAs.frame g q fun p hp => f p (by rw [e2]; simp [hp])⟩
theorem RA1.live {a : ArgT} {v : V} {fp : List Addr} (h : RA1 K mg G H σ a v fp) : ∀ p ∈ fp, H p ≠ none := by
  cases a with
  | own t => exact RO.live h
  | lent s t0 p =>
    obtain ⟨v0, u, h1, h2, h3, h4⟩ := h
    exact h2.live
/-- cells that are held while something else is done -/
def holdO (B : Bs) (H : Hp) (fv : List Addr) : Hp := fun p => if p ∈ fv then H p else B.O p
def holdB (B : Bs) (G H : Hp) (fv : List Addr) : Bs := ⟨holdO B H fv, G, B.io⟩
theorem holdO_in {fv : List Addr} {p : Addr} (h : p ∈ fv) : holdO B H fv p = H p := if_pos h
theorem holdO_out {fv : List Addr} {p : Addr} (h : p ∉ fv) : holdO B H fv p = B.O p := if_neg h
theorem Slots.hold {F : Nat → List Addr} {fv : List Addr} (g : Gr B G H σ) (f : Slots K mg B G H σ ρ F) (dj : ∀ i p, p ∈ fv → p ∉ F i) : Gr (holdB B G H fv) G H σ ∧ Slots K mg (holdB B G H fv) G H σ ρ F := by
  refine ⟨⟨g.gh, fun p o h => ?_, Same.refl _, fun _ _ => rfl, g.io⟩, ⟨f.rep, f.nd, fun i p hp => ?_, f.dj⟩⟩
  · by_cases m : p ∈ fv
    · exact (holdO_in (B := B) (H := H) m).symm.trans h
    · exact g.oh p o ((holdO_out (B := B) (H := H) m).symm.trans h)
  · obtain ⟨a, b, c⟩ := f.at_ i p hp
    exact ⟨a, b, (holdO_out (B := B) (H := H) fun m => dj i p m hp).trans c⟩
theorem Gr.unhold {fv : List Addr} (g : Gr B G H σ) (at_ : ∀ p ∈ fv, H p ≠ none ∧ G p = none ∧ B.O p = none) (g' : Gr (holdB B G H fv) G' H' σ') : Gr B G' H' σ' ∧ Same G G' ∧ ∀ p ∈ fv, H' p = H p ∧ G' p = none := by
  refine ⟨⟨g'.gh, fun p o h => g'.oh p o ?_, g.g0.trans g'.g0, fun p h => ?_, g'.io⟩, g'.g0, fun p m => ?_⟩
  · exact (holdO_out fun m => by rw [(at_ p m).2.2] at h; cases h).trans h
  · have m : p ∉ fv := fun m => h (at_ p m).2.2
    exact (g'.og p (by rw [show (holdB B G H fv).O p = B.O p from holdO_out m]; exact h)).trans (g.og p h)
  · have e : (holdB B G H fv).O p = H p := holdO_in m
    have n : (holdB B G H fv).O p ≠ none := by rw [e]; exact (at_ p m).1
    exact ⟨(same_at g'.oh n).trans e, (g'.og p n).trans (at_ p m).2.1⟩
theorem Slots.unhold {F' : Nat → List Addr} {fv : List Addr} (at_ : ∀ p ∈ fv, H p ≠ none ∧ G p = none ∧ B.O p = none) (f' : Slots K mg (holdB B G H fv) G' H' σ' ρ' F') : Slots K mg B G' H' σ' ρ' F' ∧ ∀ i p, p ∈ F' i → p ∉ fv := by
  have n : ∀ i p, p ∈ F' i → p ∉ fv := fun i p hp m => by
    have := (f'.at_ i p hp).2.2
    rw [show (holdB B G H fv).O p = H p from holdO_in m] at this
    exact (at_ p m).1 this
  exact ⟨⟨f'.rep, f'.nd, fun i p hp => ⟨(f'.at_ i p hp).1, (f'.at_ i p hp).2.1, (holdO_out (n i p hp)).symm.trans (f'.at_ i p hp).2.2⟩, f'.dj⟩, n⟩
theorem Rep.unhold {fv : List Addr} (g : Gr B G H σ) (at_ : ∀ p ∈ fv, H p ≠ none ∧ G p = none ∧ B.O p = none) (r : Rep K mg (holdB B G H fv) G' H' σ' ρ') : Rep K mg B G' H' σ' ρ' := by
  obtain ⟨F', f'⟩ := r.sl
  exact ⟨(g.unhold at_ r.g).1, r.len, F', (f'.unhold at_).1⟩
/-- one argument, held while the others come -/
theorem RepA.cons {F : Nat → List Addr} {fv : List Addr} {a : ArgT} {v : V} {as : List ArgT} {vs : List V} (g : Gr B G H σ) (at_ : ∀ p ∈ fv, H p ≠ none ∧ G p = none ∧ B.O p = none) (nd : fv.Nodup) (ha : RA1 K mg G H σ a v fv) (r : RepA K mg (holdB B G H fv) G' H' σ ρ' as vs) : RepA K mg B G' H' σ ρ' (a :: as) (v :: vs) := by
  obtain ⟨F', fw, f', h, nd', at', dj'⟩ := r.sl
  obtain ⟨g2, gg, kk⟩ := g.unhold at_ r.g
  obtain ⟨f2, n2⟩ := f'.unhold at_
  have nw : ∀ p ∈ fw, p ∉ fv ∧ B.O p = none := fun p hp => by
    have := (at' p hp).2.2
    by_cases m : p ∈ fv
    · rw [show (holdB B G H fv).O p = H p from holdO_in m] at this
      exact absurd this (at_ p m).1
    · exact ⟨m, (holdO_out m).symm.trans this⟩
  refine ⟨g2, r.len, F', fv ++ fw, f2, ⟨v, vs, fv, fw, rfl, rfl, ha.frame gg fun p hp => (kk p hp).1, h⟩, List.nodup_append.mpr ⟨nd, nd', fun x hx y hy z => (nw y hy).1 (z ▸ hx)⟩, fun p hp => ?_, fun i p hp hi => ?_⟩
  · rcases List.mem_append.mp hp with hp | hp
    · exact ⟨by rw [(kk p hp).1]; exact (at_ p hp).1, (kk p hp).2, (at_ p hp).2.2⟩
    · exact ⟨(at' p hp).1, (at' p hp).2.1, (nw p hp).2⟩
  · rcases List.mem_append.mp hp with hp | hp
    · exact n2 i p hi hp
    · exact dj' i p hp hi
/-- what the callee gets, what comes back to the slots -/
theorem RAs.split : ∀ {as : List ArgT} {vs : List V} {fp : List Addr} {ts : List OT}, RAs K mg G H σ as vs fp → fp.Nodup → argTs as = some ts → ∃ cf, ROs K mg G H ts vs cf ∧ cf.Sublist fp ∧
    ∀ G' H' outs l fo, Same G G' → (∀ x ∈ fp, x ∉ cf → H' x = H x) → ROs K mg G' H' outs (pick (maskOf as) vs) fo → fo.Nodup → (∀ x ∈ fo, x ∈ cf ∨ x ∉ fp) → lents as outs = some l → ∃ fb, LB K mg G' H' σ l fb ∧ fb.Nodup ∧ ∀ x ∈ fb, x ∈ fo ∨ (x ∈ fp ∧ x ∉ cf)
  | [], vs, fp, ts, ⟨e1, e2⟩, nd, e => by
    cases e
    subst e1 e2
    refine ⟨[], ⟨rfl, rfl⟩, List.Sublist.refl _, fun G' H' outs l fo gg k ro n m e => ?_⟩
    cases outs with
    | nil => cases e; exact ⟨[], rfl, List.nodup_nil, fun x hx => absurd hx (by simp)⟩
    | cons _ _ => cases e
  | a :: as, vs, fp, ts, ⟨v, r, f1, f2, e1, e2, h, q⟩, nd, e => by
    subst e1 e2
    obtain ⟨n1, n2, d12⟩ := List.nodup_append.mp nd
    unfold argTs at e
    obtain ⟨t, et, e⟩ := Option.bind_eq_some_iff.mp e
    obtain ⟨ts', ets, rfl⟩ := Option.map_eq_some_iff.mp e
    obtain ⟨cf, c1, c2, c3⟩ := RAs.split q n2 ets
    cases a with
    | own t0 =>
      cases et
      refine ⟨f1 ++ cf, ⟨v, r, f1, cf, rfl, rfl, h, c1⟩, List.Sublist.append (List.Sublist.refl _) c2, fun G' H' outs l fo gg k ro n m e => ?_⟩
      obtain ⟨fb, b1, b2, b3⟩ := c3 G' H' outs l fo gg (fun x hx nx => k x (by simp [hx]) (by simp [nx]; exact fun z => d12 x z x hx rfl)) ro n (fun x hx => by
        rcases m x hx with m | m
        · rcases List.mem_append.mp m with m | m
          · exact .inr fun z => d12 x m x z rfl
          · exact .inl m
        · exact .inr fun z => m (by simp [z])) e
      refine ⟨fb, b1, b2, fun x hx => ?_⟩
      rcases b3 x hx with z | ⟨z1, z2⟩
      · exact .inl z
      · exact .inr ⟨by simp [z1], by simp [z2]; exact fun z => d12 x z x z1 rfl⟩
    | lent s t0 p =>
      obtain ⟨v0, u, h1, h2, h3, h4⟩ := h
      rw [show argT (.lent s t0 p) = t0.sub p from rfl, h3] at et
      cases et
      obtain ⟨v', g1, f', g2, a1, a2, a3, a4⟩ := h2.ctx h3
      rw [h4] at a1
      cases a1
      subst a2
      obtain ⟨m1, m2, e12⟩ := List.nodup_append.mp n1
      obtain ⟨m3, m4, e34⟩ := List.nodup_append.mp m2
      refine ⟨f' ++ cf, ⟨v, r, f', cf, rfl, rfl, a3, c1⟩, List.Sublist.append ((List.sublist_append_left f' g2).trans (List.sublist_append_right g1 _)) c2, fun G' H' outs l fo gg k ro n m e => ?_⟩
      cases outs with
      | nil => cases e
      | cons o outs =>
        unfold lents at e
        obtain ⟨l', el, rfl⟩ := Option.map_eq_some_iff.mp e
        obtain ⟨w, r', fo1, fo2, ew, rfl, ro1, ro2⟩ := ro
        cases ew
        obtain ⟨p1, p2, p12⟩ := List.nodup_append.mp n
        have ing1 : ∀ x, x ∈ g1 ∨ x ∈ g2 → x ∉ f' ++ cf := fun x hx z => by
          rcases List.mem_append.mp z with z | z
          · rcases hx with hx | hx
            · exact e12 x hx x (by simp [z]) rfl
            · exact e34 x z x hx rfl
          · exact d12 x (by rcases hx with hx | hx <;> simp [hx]) x (c2.subset z) rfl
        obtain ⟨fb, b1, b2, b3⟩ := c3 G' H' outs l' fo2 gg (fun x hx nx => k x (by simp [hx]) fun z => by
          rcases List.mem_append.mp z with z | z
          · exact d12 x (by simp [z]) x hx rfl
          · exact nx z) ro2 p2 (fun x hx => by
            rcases m x (by simp [hx]) with m | m
            · rcases List.mem_append.mp m with m | m
              · exact .inr fun z => d12 x (by simp [m]) x z rfl
              · exact .inl m
            · exact .inr fun z => m (by simp [z])) el
        have q1 := (a4 G' H' o fo1 gg (fun x hx => k x (by rcases hx with hx | hx <;> simp [hx]) (ing1 x hx)) ro1).2
        have fo1n : ∀ x ∈ fo1, x ∉ g1 ∧ x ∉ g2 := fun x hx => by
          rcases m x (by simp [hx]) with m | m
          · exact ⟨fun z => ing1 x (.inl z) m, fun z => ing1 x (.inr z) m⟩
          · exact ⟨fun z => m (by simp [z]), fun z => m (by simp [z])⟩
        refine ⟨(g1 ++ (fo1 ++ g2)) ++ fb, ⟨v0, _, fb, rfl, h1, q1, b1⟩, List.nodup_append.mpr ⟨List.nodup_append.mpr ⟨m1, List.nodup_append.mpr ⟨p1, m4, fun x hx y hy z => (fo1n x hx).2 (z ▸ hy)⟩, fun x hx y hy z => ?_⟩, b2, fun x hx y hy z => ?_⟩, fun x hx => ?_⟩
        · rcases List.mem_append.mp hy with hy | hy
          · exact (fo1n y hy).1 (z ▸ hx)
          · exact e12 x hx y (by simp [hy]) z
        · subst z
          rcases b3 x hy with b | ⟨b, b'⟩
          · rcases List.mem_append.mp hx with hx | hx
            · rcases m x (by simp [b]) with m | m
              · exact ing1 x (.inl hx) m
              · exact m (by simp [hx])
            · rcases List.mem_append.mp hx with hx | hx
              · exact p12 x hx x b rfl
              · rcases m x (by simp [b]) with m | m
                · exact ing1 x (.inr hx) m
                · exact m (by simp [hx])
          · rcases List.mem_append.mp hx with hx | hx
            · exact d12 x (by simp [hx]) x b rfl
            · rcases List.mem_append.mp hx with hx | hx
              · rcases m x (by simp [hx]) with m | m
                · rcases List.mem_append.mp m with m | m
                  · exact d12 x (by simp [m]) x b rfl
                  · exact b' m
                · exact m (by simp [b])
              · exact d12 x (by simp [hx]) x b rfl
        · rcases List.mem_append.mp hx with hx | hx
          · rcases List.mem_append.mp hx with hx | hx
            · exact .inr ⟨by simp [hx], ing1 x (.inl hx)⟩
            · rcases List.mem_append.mp hx with hx | hx
              · exact .inl (by simp [hx])
              · exact .inr ⟨by simp [hx], ing1 x (.inr hx)⟩
          · rcases b3 x hx with b | ⟨b, b'⟩
            · exact .inl (by simp [b])
            · refine .inr ⟨by simp [b], fun z => ?_⟩
              rcases List.mem_append.mp z with z | z
              · exact d12 x (by simp [z]) x b rfl
              · exact b' z
/-- the slots lent are there again -/
theorem Slots.setAll : ∀ {l : List (Nat × OT)} {ρ : En} {F : Nat → List Addr} {fb : List Addr}, Slots K mg B G H σ ρ F → LB K mg G H σ l fb → fb.Nodup → (∀ x ∈ fb, H x ≠ none ∧ G x = none ∧ B.O x = none) → (∀ i x, x ∈ fb → x ∉ F i) →
    ∃ F', Slots K mg B G H σ (FL.setAll l ρ) F' ∧ ∀ i x, x ∈ F' i → x ∈ F i ∨ x ∈ fb
  | [], ρ, F, fb, f, h, nd, at_, dj => ⟨F, f, fun i x hx => .inl hx⟩
  | (s, t) :: l, ρ, F, fb, f, ⟨v0, f1, f2, e, hs, ro, q⟩, nd, at_, dj => by
    subst e
    obtain ⟨n1, n2, d12⟩ := List.nodup_append.mp nd
    have fs : Slots K mg B G H σ (ρ.set s (some t)) (fun j => if j = s then f1 else F j) := by
      refine ⟨fun i u e => ?_, fun i => ?_, fun i p hp => ?_, fun i j p ne hp hq => ?_⟩
      · rcases get_set e with ⟨e1, hl, e2⟩ | ⟨ne, e⟩
        · subst e1; cases e2
          exact ⟨v0, hs, by rw [if_pos rfl]; exact ro⟩
        · obtain ⟨w, a, b⟩ := f.rep i u e
          exact ⟨w, a, by rw [if_neg (fun z => ne z.symm)]; exact b⟩
      · (try dsimp only); split
        · exact n1
        · exact f.nd i
      · (try dsimp only at hp); split at hp
        · exact at_ p (by simp [hp])
        · exact f.at_ i p hp
      · (try dsimp only at hp hq)
        split at hp
        · split at hq
          · rename_i z1 z2; exact ne (z1.trans z2.symm)
          · exact dj j p (by simp [hp]) hq
        · split at hq
          · exact dj i p (by simp [hq]) hp
          · exact f.dj i j p ne hp hq
    obtain ⟨F', a, b⟩ := fs.setAll q n2 (fun x hx => at_ x (by simp [hx])) (fun i x hx hi => by
      (try dsimp only at hi); split at hi
      · exact d12 x hi x hx rfl
      · exact dj i x (by simp [hx]) hi)
    refine ⟨F', a, fun i x hx => ?_⟩
    rcases b i x hx with z | z
    · (try dsimp only at z); split at z
      · exact .inr (by simp [z])
      · exact .inl z
    · exact .inr (by simp [z])
/-- behind a call -/
theorem RepA.back {as : List ArgT} {vs : List V} {ts : List OT} (r : RepA K mg B G H σ ρ as vs) (ht : argTs as = some ts) : ∃ cf, ROs K mg G H ts vs cf ∧ cf.Nodup ∧ (∀ p ∈ cf, G p = none) ∧
    ∀ G' H' outs l fo, Same (outer H cf) H' → Same G G' → Same G' H' → (∀ p, H p ≠ none → p ∉ cf → G' p = G p) → ROs K mg G' H' outs (pick (maskOf as) vs) fo → fo.Nodup → (∀ p ∈ fo, G' p = none ∧ (H p = none ∨ p ∈ cf)) → lents as outs = some l →
      Rep K mg B G' H' σ (FL.setAll l ρ) ∧ ∀ t v fr, RO K mg G' H' t v fr → (fr ++ fo).Nodup → (∀ p ∈ fr, G' p = none ∧ (H p = none ∨ p ∈ cf)) → RepV K mg B G' H' σ (FL.setAll l ρ) t v := by
  obtain ⟨F, fv, f, ra, nd, at_, dj⟩ := r.sl
  obtain ⟨cf, c1, c2, c3⟩ := ra.split nd ht
  refine ⟨cf, c1, nd.sublist c2, fun p hp => (at_ p (c2.subset hp)).2.1, fun G' H' outs l fo o1 o2 o3 o4 ro ndo ato hl => ?_⟩
  have keep : ∀ p, H p ≠ none → p ∉ cf → H' p = H p := fun p hp np => by
    cases e : H p with
    | none => exact absurd e hp
    | some o => exact o1 p o (by unfold outer; rw [if_neg np]; exact e)
  have gr : Gr B G' H' σ := by
    refine ⟨o3, fun p o h => ?_, r.g.g0.trans o2, fun p h => ?_, r.g.io⟩
    · have hp := r.g.oh p o h
      have np : p ∉ cf := fun z => by rw [(at_ p (c2.subset z)).2.2] at h; cases h
      rw [keep p (by rw [hp]; exact fun z => nomatch z) np]; exact hp
    · have np : p ∉ cf := fun z => h (at_ p (c2.subset z)).2.2
      have hp : H p ≠ none := by rw [same_at r.g.oh h]; exact h
      rw [o4 p hp np]; exact r.g.og p h
  have fF : ∀ i p, p ∈ F i → p ∉ cf := fun i p hp z => dj i p (c2.subset z) hp
  have f2 : Slots K mg B G' H' σ ρ F := ⟨fun i t e => by
      obtain ⟨v, a, b⟩ := f.rep i t e
      exact ⟨v, a, b.frame o2 fun p hp => keep p (f.at_ i p hp).1 (fF i p hp)⟩, f.nd, fun i p hp => by
      obtain ⟨a, b, c⟩ := f.at_ i p hp
      exact ⟨by rw [keep p a (fF i p hp)]; exact a, by rw [o4 p a (fF i p hp)]; exact b, c⟩, f.dj⟩
  obtain ⟨fb, b1, b2, b3⟩ := c3 G' H' outs l fo o2 (fun x hx nx => keep x (at_ x hx).1 nx) ro ndo (fun x hx => by
    rcases (ato x hx).2 with z | z
    · exact .inr fun m => (at_ x m).1 z
    · exact .inl z) hl
  have OF : ∀ p, (H p = none ∨ p ∈ cf) → B.O p = none := fun p h => by
    rcases h with z | z
    · exact r.g.oh.free z
    · exact (at_ p (c2.subset z)).2.2
  have nF : ∀ i p, (H p = none ∨ p ∈ cf) → p ∉ F i := fun i p h hp => by
    rcases h with z | z
    · exact (f.at_ i p hp).1 z
    · exact fF i p hp z
  have atb : ∀ x ∈ fb, H' x ≠ none ∧ G' x = none ∧ B.O x = none := fun x hx => by
    rcases b3 x hx with z | ⟨z1, z2⟩
    · exact ⟨ROs.live ro x z, (ato x z).1, OF x (ato x z).2⟩
    · obtain ⟨a, b, c⟩ := at_ x z1
      exact ⟨by rw [keep x a z2]; exact a, by rw [o4 x a z2]; exact b, c⟩
  have djb : ∀ i x, x ∈ fb → x ∉ F i := fun i x hx => by
    rcases b3 x hx with z | ⟨z1, z2⟩
    · exact nF i x (ato x z).2
    · exact dj i x z1
  obtain ⟨F', f3, f4⟩ := f2.setAll b1 b2 atb djb
  refine ⟨⟨gr, by rw [setAll_len]; exact r.len, F', f3⟩, fun t v fr rt ndr atr => ⟨gr, by rw [setAll_len]; exact r.len, F', fr, f3, rt, (List.nodup_append.mp ndr).1, fun p hp => ⟨RO.live rt p hp, (atr p hp).1, OF p (atr p hp).2⟩, fun i p hp hi => ?_⟩⟩
  rcases f4 i p hi with z | z
  · exact nF i p (atr p hp).2 z
  · rcases b3 p z with z | ⟨z1, z2⟩
    · exact (List.nodup_append.mp ndr).2.2 p hp p z rfl
    · rcases (atr p hp).2 with y | y
      · exact (at_ p z1).1 y
      · exact z2 y
end
/-! ### lists of such arguments -/
inductive ResA where
  | ok (as : List ArgT) (ρ : En) | ex (c : Exn) (ρ : En) | bad
def WrA (X : Cx) (W : WW) (B : Bs) (σ : L2.St) (r : ResA) (Q : List V → Hp → Prop) : Prop := match r with
  | .ok as ρ => ∀ vs G' H', RepA X.K X.mg B G' H' σ ρ as vs → Q vs H'
  | .ex c ρ => W.on ∧ ∀ G' H' cls dd, Rep X.K X.mg B G' H' σ ρ → RX X.K X.mg G' H' c cls dd → W.w cls dd σ H'
  | .bad => False
structure EXA (X : Cx) (W : WW) (es : List Expr) (f : En → ResA) : Prop where
  run : ∀ B, PA X es fun σ H Q => ∃ G ρ, Rep X.K X.mg B G H σ ρ ∧ WrA X W B σ (f ρ) Q
def nilX (ρ : En) : ResA := .ok [] ρ
def tailX (a : ArgT) : ResA → ResA
  | .ok as ρ => .ok (a :: as) ρ
  | .ex c ρ => .ex c ρ
  | .bad => .bad
def consX (f : En → ResX) (fs : En → ResA) (ρ : En) : ResA := match f ρ with
  | .ok t ρ1 => tailX (.own t) (fs ρ1)
  | .ex c ρ1 => .ex c ρ1
  | .bad => .bad
def lendX (s : Nat) (f : En → Res (List Nat)) (fs : En → ResA) (ρ : En) : ResA := match f ρ with
  | .ok p => match ρ[s]? with
    | some (some t0) => match t0.sub p with
      | some _ => tailX (.lent s t0 p) (fs (ρ.set s none))
      | none => .bad
    | _ => .bad
  | .ex c => .ex c ρ
  | .bad => .bad
section
variable {X : Cx} {W : WW} {e : Expr} {es : List Expr} {f : En → ResX} {fp : En → Res (List Nat)} {fs : En → ResA} {fd : En → Res D} {fo : En → Res OT}
theorem EXA.nil : EXA X W [] nilX := ⟨fun B => PA.mono pa_nil fun σ H Q ⟨G, ρ, r, h⟩ => by
  obtain ⟨F, f⟩ := r.sl
  exact h [] G H ⟨r.g, r.len, F, [], f, ⟨rfl, rfl⟩, List.nodup_nil, fun p hp => absurd hp (by simp), fun i p hp => absurd hp (by simp)⟩⟩
theorem tail_next {B : Bs} {G H : Hp} {σ : L2.St} {ρ : En} {a : ArgT} {v : V} {F : Nat → List Addr} {fv : List Addr} {Q : List V → Hp → Prop} (g : Gr B G H σ) (len : ρ.length = σ.length) (f : Slots X.K X.mg B G H σ ρ F) (ha : RA1 X.K X.mg G H σ a v fv) (nd : fv.Nodup) (at_ : ∀ p ∈ fv, H p ≠ none ∧ G p = none ∧ B.O p = none) (dj : ∀ i p, p ∈ fv → p ∉ F i)
    (h : WrA X W B σ (tailX a (fs ρ)) Q) : Rep X.K X.mg (holdB B G H fv) G H σ ρ ∧ WrA X W (holdB B G H fv) σ (fs ρ) fun vs H' => Q (v :: vs) H' := by
  obtain ⟨g1, f1⟩ := f.hold g dj
  refine ⟨⟨g1, len, F, f1⟩, ?_⟩
  cases e : fs ρ with
  | bad => rw [e] at h; exact h
  | ok as ρ' =>
    rw [e] at h
    exact fun vs G' H' r => h (v :: vs) G' H' (RepA.cons (F := F) g at_ nd ha r)
  | ex c ρ' =>
    rw [e] at h
    exact ⟨h.1, fun G' H' cls dd r q => h.2 G' H' cls dd (r.unhold g at_) q⟩
theorem EXA.cons (h : EX X W e f) (h2 : EXA X W es fs) (hs : starEach (e :: es) X.env = (false, eval e X.env) :: starEach es X.env := by rfl) : EXA X W (e :: es) (consX f fs) := ⟨fun B => by
  refine ⟨fun pos pins s σ H Q I ⟨G, ρ, r, w⟩ => ?_⟩
  refine (pa_cons (h.run B) (t := fun σ H Q => ∃ B, ∃ G ρ, Rep X.K X.mg B G H σ ρ ∧ WrA X W B σ (fs ρ) Q) ⟨fun pos pins s σ H Q I ⟨B', q⟩ => (h2.run B').run pos pins s σ H Q I q⟩ hs).run pos pins s σ H Q I ⟨G, ρ, r, ?_⟩
  unfold consX at w
  cases e1 : f ρ with
  | bad => rw [e1] at w; exact w
  | ex c ρ1 => rw [e1] at w; exact w
  | ok t ρ1 =>
    rw [e1] at w
    intro v G1 H1 r1
    obtain ⟨F, fv, f1, ro, nd, at_, dj⟩ := r1.sl
    exact ⟨holdB B G1 H1 fv, G1, ρ1, tail_next (a := .own t) r1.g r1.len f1 ro nd at_ dj w⟩⟩
theorem EXA.lend (s : Nat) (h : EP X W s e fp) (h2 : EXA X W es fs) (hs : starEach (e :: es) X.env = (false, eval e X.env) :: starEach es X.env := by rfl) : EXA X W (e :: es) (lendX s fp fs) := ⟨fun B => by
  refine ⟨fun pos pins s' σ H Q I ⟨G, ρ, r, w⟩ => ?_⟩
  refine (pa_cons (h.run B) (t := fun σ H Q => ∃ B, ∃ G ρ, Rep X.K X.mg B G H σ ρ ∧ WrA X W B σ (fs ρ) Q) ⟨fun pos pins s σ H Q I ⟨B', q⟩ => (h2.run B').run pos pins s σ H Q I q⟩ hs).run pos pins s' σ H Q I ⟨G, ρ, r, ?_⟩
  unfold lendX at w
  cases e1 : fp ρ with
  | bad => rw [e1] at w; exact w
  | ex c =>
    rw [e1] at w
    exact ⟨w.1, fun G' H' cls dd s q => w.2 G' H' cls dd (r.step s) q⟩
  | ok p =>
    rw [e1] at w
    intro v G1 H1 s1 ⟨v0, q1, q2⟩
    have r1 := r.step s1
    (try dsimp only at w)
    split at w
    · rename_i t0 et
      split at w
      · rename_i u eu
        obtain ⟨F, f1⟩ := r1.sl
        obtain ⟨v1, a1, a2⟩ := f1.rep s t0 et
        rw [q1] at a1
        cases a1
        have f2 : Slots X.K X.mg B G1 H1 σ (ρ.set s none) (fun j => if j = s then [] else F j) := by
          refine ⟨fun i u e => ?_, fun i => ?_, fun i p hp => ?_, fun i j p ne hp hq => ?_⟩
          · rcases get_set e with ⟨_, _, e2⟩ | ⟨ne, e⟩
            · cases e2
            · obtain ⟨w, a, b⟩ := f1.rep i u e
              exact ⟨w, a, by rw [if_neg (fun z => ne z.symm)]; exact b⟩
          · (try dsimp only); split
            · exact List.nodup_nil
            · exact f1.nd i
          · (try dsimp only at hp); split at hp
            · cases hp
            · exact f1.at_ i p hp
          · (try dsimp only at hp hq)
            split at hp
            · cases hp
            · split at hq
              · cases hq
              · exact f1.dj i j p ne hp hq
        refine ⟨holdB B G1 H1 (F s), G1, _, tail_next (a := .lent s t0 p) (v := v) r1.g (by rw [List.length_set]; exact r1.len) f2 ⟨v0, u, q1, a2, eu, q2⟩ (f1.nd s) (f1.at_ s) (fun i x hx hi => ?_) w⟩
        (try dsimp only at hi); split at hi
        · cases hi
        · rename_i ne; exact f1.dj i s x ne hi hx
      · exact w.elim
    · exact w.elim⟩
/-! expressions that change nothing, as those that may -/
def xF (f : En → Res D) (ρ : En) : ResX := match f ρ with
  | .ok d => .ok (.d d) ρ
  | .ex c => .ex c ρ
  | .bad => .bad
def xO (f : En → Res OT) (ρ : En) : ResX := match f ρ with
  | .ok t => .ok t ρ
  | .ex c => .ex c ρ
  | .bad => .bad
theorem EX.ofF (h : EF X W e fd) : EX X W e (xF fd) := ⟨fun B => PE.mono (h.run B) fun σ H Q ⟨G, ρ, r, w⟩ => ⟨G, ρ, r, by
  unfold xF at w
  cases e1 : fd ρ with
  | bad => rw [e1] at w; exact w
  | ex c => rw [e1] at w; exact ⟨w.1, fun G' H' cls dd s q => w.2 G' H' cls dd (r.step s) q⟩
  | ok d => rw [e1] at w; exact fun v G' H' s q => w v G' H' ((r.step s).val q)⟩⟩
theorem EX.ofO (h : EO X W e fo) : EX X W e (xO fo) := ⟨fun B => PE.mono (h.run B) fun σ H Q ⟨G, ρ, r, w⟩ => ⟨G, ρ, r, by
  unfold xO at w
  cases e1 : fo ρ with
  | bad => rw [e1] at w; exact w
  | ex c => rw [e1] at w; exact ⟨w.1, fun G' H' cls dd s q => w.2 G' H' cls dd (r.step s) q⟩
  | ok t => rw [e1] at w; exact fun v G' H' s ⟨fp, q1, q2, q3⟩ => w v G' H' (r.fresh s q1 q2 q3)⟩⟩
/-- an owned thing moved out of its slot -/
def mvX (i : Nat) (ρ : En) : ResX := match ρ[i]? with
  | some (some t) => .ok t (ρ.set i none)
  | _ => .bad
theorem EX.mv (i : Nat) {x : Str} {ppos : Pos} (hN : X.N[i]? = some x := by rfl) (hv : Vis X.env.scope x := by first | exact Or.inl rfl | exact Or.inr (Or.inl rfl) | exact Or.inr (Or.inr rfl)) (hd : (x == ("__debug__" : Str)) = false := by decide) (hcd : (x == ("__classdict__" : Str)) = false := by decide) : EX X W (.Name x ppos) (mvX i) := ⟨fun B =>
  PE.mono (pe_var (i := i) hN hv hd hcd) fun σ H Q ⟨G, ρ, r, h⟩ => by
    unfold mvX at h
    split at h
    · rename_i t et
      obtain ⟨v, a, rv⟩ := r.move et
      exact ⟨v, a, h v G H rv⟩
    · exact h.elim⟩
end
end FL
/-! The functional layer, part PM: defs that own or change some of their arguments. -/
namespace FL
open PySem PySem.Spec PyProof.Rows L2
inductive ResG where
  | ok (r : OT) (outs : List OT) | ex (c : Exn) (outs : List OT) | bad
/-- what a def promises: all arguments are handed over, those of the mask come back -/
def spG (K : PySem.W.Frag) (mg : Str → Option Value) (on : Prop) (m : List Bool) (F : List OT → ResG) : Sp := fun vs H Q E => ∃ G ts fp, Same G H ∧ ROs K mg G H ts vs fp ∧ fp.Nodup ∧ (∀ p ∈ fp, G p = none) ∧ match F ts with
  | .ok r outs => ∀ v G' H' fr fo, Same (outer H fp) H' → Same G G' → Same G' H' → (∀ p, H p ≠ none → p ∉ fp → G' p = G p) → RO K mg G' H' r v fr → ROs K mg G' H' outs (pick m vs) fo → (fr ++ fo).Nodup → (∀ p ∈ fr ++ fo, G' p = none ∧ (H p = none ∨ p ∈ fp)) → Q v H'
  | .ex c outs => on ∧ ∀ G' H' fo cls dd, Same (outer H fp) H' → Same G G' → Same G' H' → (∀ p, H p ≠ none → p ∉ fp → G' p = G p) → ROs K mg G' H' outs (pick m vs) fo → fo.Nodup → (∀ p ∈ fo, G' p = none ∧ (H p = none ∨ p ∈ fp)) → RX K mg G' H' c cls dd → E cls dd H'
  | .bad => False
def argsG (n : Nat) (ts : List OT) : En := ts.map some ++ List.replicate (n - ts.length) none
def outsG : Nat → List Bool → En → Option (List OT)
  | _, [], _ => some []
  | k, false :: m, ρ => outsG (k + 1) m ρ
  | k, true :: m, ρ => match ρ[k]? with
    | some (some t) => (outsG (k + 1) m ρ).map (t :: ·)
    | _ => none
def finG (m : List Bool) : Flw → ResG
  | .nx ρ => match outsG 0 m ρ with
    | some outs => .ok (.d .non) outs
    | none => .bad
  | .rt r ρ => match outsG 0 m ρ with
    | some outs => .ok r outs
    | none => .bad
  | .ex c ρ => match outsG 0 m ρ with
    | some outs => .ex c outs
    | none => .bad
  | _ => .bad
def runG (a n : Nat) (m : List Bool) (F : En → Flw) (ts : List OT) : ResG := if ts.length = a ∧ m.length = a then finG m (F (argsG n ts)) else .bad
def ioIx : Nat → List Bool → List Nat
  | _, [] => []
  | k, true :: m => k :: ioIx (k + 1) m
  | k, false :: m => ioIx (k + 1) m
def ioV : Nat → List Bool → List V → List (Nat × V)
  | k, true :: m, v :: vs => (k, v) :: ioV (k + 1) m vs
  | k, false :: m, _ :: vs => ioV (k + 1) m vs
  | _, _, _ => []
theorem ioV_map : ∀ {k : Nat} {m : List Bool} {vs : List V}, m.length = vs.length → (ioV k m vs).map (·.1) = ioIx k m
  | _, [], [], _ => rfl
  | k, true :: m, v :: vs, h => by rw [ioV, List.map_cons, ioV_map (by simpa using h), ioIx]
  | k, false :: m, v :: vs, h => by rw [ioV, ioV_map (by simpa using h), ioIx]
  | _, [], _ :: _, h => nomatch h
  | _, _ :: _, [], h => nomatch h
theorem ioV_mem : ∀ {k : Nat} {m : List Bool} {vs : List V} {q : Nat × V}, q ∈ ioV k m vs → k ≤ q.1 ∧ vs[q.1 - k]? = some q.2
  | k, true :: m, v :: vs, q, h => by
    rw [ioV] at h
    rcases List.mem_cons.mp h with rfl | h
    · exact ⟨Nat.le_refl _, by simp⟩
    · obtain ⟨a, b⟩ := ioV_mem h
      refine ⟨by omega, ?_⟩
      rw [show q.1 - k = (q.1 - (k + 1)) + 1 by omega, List.getElem?_cons_succ]; exact b
  | k, false :: m, v :: vs, q, h => by
    rw [ioV] at h
    obtain ⟨a, b⟩ := ioV_mem h
    refine ⟨by omega, ?_⟩
    rw [show q.1 - k = (q.1 - (k + 1)) + 1 by omega, List.getElem?_cons_succ]; exact b
  | _, [], _, _, h => by rw [ioV] at h; cases h; all_goals simp
  | _, true :: _, [], _, h => by simp [ioV] at h
  | _, false :: _, [], _, h => by simp [ioV] at h
section
variable {K : PySem.W.Frag} {mg : Str → Option Value} {B : Bs} {G H G' H' : Hp} {σ σ' : L2.St} {ρ ρ' : En}
theorem ROs.parts : ∀ {ts : List OT} {vs : List V} {fp : List Addr}, ROs K mg G H ts vs fp → fp.Nodup → ∃ FF : Nat → List Addr, (∀ i t, ts[i]? = some t → ∃ v, vs[i]? = some v ∧ RO K mg G H t v (FF i)) ∧ (∀ i, (FF i).Nodup) ∧ (∀ i p, p ∈ FF i → p ∈ fp) ∧ ∀ i j p, i ≠ j → p ∈ FF i → p ∉ FF j
  | [], vs, fp, _, _ => ⟨fun _ => [], fun i t h => (nomatch h), fun _ => List.nodup_nil, fun i p h => (nomatch h), fun i j p _ h => (nomatch h)⟩
  | t :: ts, _, _, ⟨v, r, f1, f2, e1, e2, h, q⟩, nd => by
    subst e1 e2
    obtain ⟨n1, n2, d⟩ := List.nodup_append.mp nd
    obtain ⟨FF, a, b, c, e⟩ := q.parts n2
    refine ⟨fun i => match i with | 0 => f1 | i + 1 => FF i, fun i u hu => ?_, fun i => ?_, fun i p hp => ?_, fun i j p ne hp hq => ?_⟩
    · cases i with
      | zero => cases hu; exact ⟨v, rfl, h⟩
      | succ i =>
        rw [List.getElem?_cons_succ] at hu ⊢
        exact a i u hu
    · cases i with
      | zero => exact n1
      | succ i => exact b i
    · cases i with
      | zero => exact List.mem_append_left _ hp
      | succ i => exact List.mem_append_right _ (c i p hp)
    · cases i with
      | zero =>
        cases j with
        | zero => exact ne rfl
        | succ j => exact d p hp p (c j p hq) rfl
      | succ i =>
        cases j with
        | zero => exact d p hq p (c i p hp) rfl
        | succ j => exact e i j p (by omega) hp hq
theorem argsG_rep {ts : List OT} {vs : List V} {fp : List Addr} {N : List Str} {m : List Bool} (gh : Same G H) (ro : ROs K mg G H ts vs fp) (nd : fp.Nodup) (fr : ∀ p ∈ fp, G p = none) (hN : ts.length ≤ N.length) :
    Rep K mg ⟨outer H fp, G, ioV 0 m vs⟩ G H (L2.start N vs) (argsG N.length ts) := by
  have hl := ro.len
  obtain ⟨FF, a, b, c, d⟩ := ro.parts nd
  refine ⟨⟨gh, fun p o h => ?_, Same.refl _, fun _ _ => rfl, fun q hq => ?_⟩, ?_, fun i => FF i, fun i u e => ?_, b, fun i p hp => ?_, d⟩
  · have h : outer H fp p = some o := h
    unfold outer at h
    split at h
    · cases h
    · exact h
  · obtain ⟨_, h⟩ := ioV_mem hq
    rw [Nat.sub_zero] at h
    unfold L2.start
    rw [List.getElem?_append_left (by rw [List.length_map]; exact (List.getElem?_eq_some_iff.mp h).1), List.getElem?_map, h]
    rfl
  · unfold L2.start argsG
    rw [List.length_append, List.length_append, List.length_map, List.length_map, List.length_replicate, List.length_replicate, hl]
  · unfold argsG at e
    by_cases hi : i < ts.length
    · rw [List.getElem?_append_left (by rw [List.length_map]; exact hi), List.getElem?_map] at e
      obtain ⟨t, et, e2⟩ := Option.map_eq_some_iff.mp e
      cases e2
      obtain ⟨v, h1, h2⟩ := a i _ et
      refine ⟨v, ?_, h2⟩
      unfold L2.start
      rw [List.getElem?_append_left (by rw [List.length_map, hl]; exact hi), List.getElem?_map, h1]
      rfl
    · rw [List.getElem?_append_right (by rw [List.length_map]; omega), List.getElem?_replicate] at e
      split at e <;> cases e
  · have hf := c i p hp
    exact ⟨ROs.live ro p hf, fr p hf, by show (if p ∈ fp then none else H p) = none; rw [if_pos hf]⟩
theorem outsG_ok {F : Nat → List Addr} (f : Slots K mg B G H σ ρ F) : ∀ {k : Nat} {m : List Bool} {vs : List V} {outs : List OT}, m.length = vs.length → (∀ q ∈ ioV k m vs, σ[q.1]? = some (some q.2)) → outsG k m ρ = some outs → ∃ fo, ROs K mg G H outs (pick m vs) fo ∧ fo.Nodup ∧ ∀ x ∈ fo, ∃ i, k ≤ i ∧ x ∈ F i
  | k, [], [], outs, _, _, e => by cases e; exact ⟨[], ⟨rfl, rfl⟩, List.nodup_nil, fun x hx => (nomatch hx)⟩
  | k, true :: m, v :: vs, outs, hl, hio, e => by
    unfold outsG at e
    split at e
    · rename_i t et
      obtain ⟨outs', e1, rfl⟩ := Option.map_eq_some_iff.mp e
      obtain ⟨fo, a, b, c⟩ := outsG_ok f (k := k + 1) (m := m) (vs := vs) (by simpa using hl) (fun q hq => hio q (by rw [ioV]; exact List.mem_cons_of_mem _ hq)) e1
      obtain ⟨w, h1, h2⟩ := f.rep k t et
      have h3 := hio (k, v) (by rw [ioV]; exact List.mem_cons_self)
      rw [h1] at h3
      cases h3
      refine ⟨F k ++ fo, ⟨v, _, F k, fo, by rw [pick], rfl, h2, a⟩, List.nodup_append.mpr ⟨f.nd k, b, fun x hx y hy z => ?_⟩, fun x hx => ?_⟩
      · subst z
        obtain ⟨i, hi, h⟩ := c x hy
        exact f.dj k i x (by omega) hx h
      · rcases List.mem_append.mp hx with hx | hx
        · exact ⟨k, Nat.le_refl _, hx⟩
        · obtain ⟨i, hi, h⟩ := c x hx
          exact ⟨i, by omega, h⟩
    · cases e
  | k, false :: m, v :: vs, outs, hl, hio, e => by
    obtain ⟨fo, a, b, c⟩ := outsG_ok f (k := k + 1) (m := m) (vs := vs) (by simpa using hl) (fun q hq => hio q (by rw [ioV]; exact hq)) e
    refine ⟨fo, by rw [pick]; exact a, b, fun x hx => ?_⟩
    obtain ⟨i, hi, h⟩ := c x hx
    exact ⟨i, by omega, h⟩
  | _, [], _ :: _, _, h, _, _ => nomatch h
  | _, true :: _, [], _, h, _, _ => nomatch h
  | _, false :: _, [], _, h, _, _ => nomatch h
end
theorem spG_len {K : PySem.W.Frag} {mg : Str → Option Value} {on : Prop} {a n : Nat} {m : List Bool} {F : En → Flw} {vs : List V} {H : Hp} {Q : VK} {E : XK} (h : spG K mg on m (runG a n m F) vs H Q E) : vs.length = a ∧ m.length = a := by
  obtain ⟨G, ts, fp, _, ro, _, _, h⟩ := h
  rw [ro.len]
  unfold runG at h
  by_cases e : ts.length = a ∧ m.length = a
  · exact e
  · rw [if_neg e] at h; exact h.elim
theorem out_runG {X : Cx} {W : WW} {on : Prop} {a n : Nat} {m : List Bool} {F : En → Flw} {ts : List OT} {vs : List V} {G H : Hp} {fp : List Addr} {Q : VK} {E : XK} (hW : on → W.on) (hE : ∀ cls d σ H', E cls d H' → W.w cls d σ H') (hv : m.length = vs.length)
    (h : match runG a n m F ts with
      | .ok r outs => ∀ v G' H' fr fo, Same (outer H fp) H' → Same G G' → Same G' H' → (∀ p, H p ≠ none → p ∉ fp → G' p = G p) → RO X.K X.mg G' H' r v fr → ROs X.K X.mg G' H' outs (pick m vs) fo → (fr ++ fo).Nodup → (∀ p ∈ fr ++ fo, G' p = none ∧ (H p = none ∨ p ∈ fp)) → Q v H'
      | .ex c outs => on ∧ ∀ G' H' fo cls dd, Same (outer H fp) H' → Same G G' → Same G' H' → (∀ p, H p ≠ none → p ∉ fp → G' p = G p) → ROs X.K X.mg G' H' outs (pick m vs) fo → fo.Nodup → (∀ p ∈ fo, G' p = none ∧ (H p = none ∨ p ∈ fp)) → RX X.K X.mg G' H' c cls dd → E cls dd H'
      | .bad => False) : Out X W ⟨outer H fp, G, ioV 0 m vs⟩ { nx := fun _ H' => Q .non H', rt := Q } (F (argsG n ts)) := by
  have og : ∀ {G' : Hp}, (∀ p, outer H fp p ≠ none → G' p = G p) → ∀ p, H p ≠ none → p ∉ fp → G' p = G p := fun h p h1 h2 => h p (by unfold outer; rw [if_neg h2]; exact h1)
  have on' : ∀ {p : Addr}, outer H fp p = none → H p = none ∨ p ∈ fp := fun {p} h => by
    unfold outer at h
    split at h
    · rename_i x; exact .inr x
    · exact .inl h
  unfold runG at h
  by_cases hc : ts.length = a ∧ m.length = a
  · rw [if_pos hc] at h
    cases e : F (argsG n ts) with
    | nx ρ =>
      rw [e, finG] at h
      intro σ G' H' r
      obtain ⟨FF, f⟩ := r.sl
      cases eo : outsG 0 m ρ with
      | none => rw [eo] at h; exact h.elim
      | some outs =>
        rw [eo] at h
        obtain ⟨fo, a1, a2, a3⟩ := outsG_ok f hv (fun q hq => r.g.io q hq) eo
        exact h .non G' H' [] fo r.g.oh r.g.g0 r.g.gh (og r.g.og) (RO.dd rfl) a1 (by simpa using a2) fun p hp => by
          obtain ⟨i, _, hi⟩ := a3 p (by simpa using hp)
          exact ⟨(f.at_ i p hi).2.1, on' (f.at_ i p hi).2.2⟩
    | rt r0 ρ =>
      rw [e, finG] at h
      intro v σ G' H' r
      obtain ⟨FF, fv, f, b1, b2, b3, b4⟩ := r.sl
      cases eo : outsG 0 m ρ with
      | none => rw [eo] at h; exact h.elim
      | some outs =>
        rw [eo] at h
        obtain ⟨fo, a1, a2, a3⟩ := outsG_ok f hv (fun q hq => r.g.io q hq) eo
        refine h v G' H' fv fo r.g.oh r.g.g0 r.g.gh (og r.g.og) b1 a1 (List.nodup_append.mpr ⟨b2, a2, fun x hx y hy z => ?_⟩) fun p hp => ?_
        · subst z
          obtain ⟨i, _, hi⟩ := a3 x hy
          exact b4 i x hx hi
        · rcases List.mem_append.mp hp with hp | hp
          · exact ⟨(b3 p hp).2.1, on' (b3 p hp).2.2⟩
          · obtain ⟨i, _, hi⟩ := a3 p hp
            exact ⟨(f.at_ i p hi).2.1, on' (f.at_ i p hi).2.2⟩
    | bk ρ => rw [e] at h; exact h.elim
    | ct ρ => rw [e] at h; exact h.elim
    | bad => rw [e] at h; exact h.elim
    | ex c ρ =>
      rw [e, finG] at h
      cases eo : outsG 0 m ρ with
      | none => rw [eo] at h; exact h.elim
      | some outs =>
        rw [eo] at h
        refine ⟨hW h.1, fun σ G' H' cls dd r q => hE _ _ _ _ ?_⟩
        obtain ⟨FF, f⟩ := r.sl
        obtain ⟨fo, a1, a2, a3⟩ := outsG_ok f hv (fun q hq => r.g.io q hq) eo
        exact h.2 G' H' fo cls dd r.g.oh r.g.g0 r.g.gh (og r.g.og) a1 a2 (fun p hp => by
          obtain ⟨i, _, hi⟩ := a3 p hp
          exact ⟨(f.at_ i p hi).2.1, on' (f.at_ i p hi).2.2⟩) q
  · rw [if_neg hc] at h; exact h.elim
section
variable {P : Program} {w : World} {K : PySem.W.Frag} {mg : Str → Option Value} {base : Heap}
theorem fnG0 {x qual : Str} {st : Stmt} {f : Addr} {fd : FuncData} {N ps : List Str} {k : Nat} {F : En → Flw} (m : List Bool) (Fn : Fun K x qual st f fd) (S : FnScope N ps (defScope st)) (hps : ps.length ≤ N.length)
    (hb : ∀ (cdv : Value) (A : Around) (outer : List Env) (s : Shared) (H : Hp) (E : XK), Room k (A.deeper (envOfC qual (defScope st) s.heap.objs.size f cdv)) → SS (cxOf CX0 P w K mg base N qual (defScope st) f cdv A outer s H E).nox W0 (ioIx 0 m) (defBody st) F) :
    FnOk P w K mg base CX0 (k + 1) f fd ps (spG K mg False m (runG ps.length N.length m F)) := by
  refine Fn.ok S (fun vs H Q E h => (spG_len h).1) (fun cdv A out s H vs Q E hr hsp => ?_)
  obtain ⟨hl, hm⟩ := spG_len hsp
  obtain ⟨G, ts, fp, gh, ro, nd, fr, h⟩ := hsp
  have hlen : ts.length = ps.length := by rw [← hl, ro.len]
  have hv : m.length = vs.length := by rw [hm, hl]
  refine ⟨_, (hb cdv A out s H E hr).run ⟨outer H fp, G, ioV 0 m vs⟩ (ioV_map hv), G, argsG N.length ts, argsG_rep gh ro nd fr (by omega), ?_⟩
  refine out_runG (X := (cxOf CX0 P w K mg base N qual (defScope st) f cdv A out s H E).nox) (W := W0) (on := False) (a := ps.length) (E := fun _ _ _ => False) (fun z => z) (fun _ _ _ _ z => z) hv ?_
  cases e : runG ps.length N.length m F ts with
  | ok r t' => rw [e] at h; exact h
  | ex c t' => rw [e] at h; exact h.1.elim
  | bad => rw [e] at h; exact h
theorem fnGX {x qual : Str} {st : Stmt} {f : Addr} {fd : FuncData} {N ps : List Str} {k : Nat} {F : En → Flw} (m : List Bool) (Fn : Fun K x qual st f fd) (S : FnScope N ps (defScope st)) (hps : ps.length ≤ N.length)
    (hb : ∀ (cdv : Value) (A : Around) (outer : List Env) (s : Shared) (H : Hp) (E : XK), Room k (A.deeper (envOfC qual (defScope st) s.heap.objs.size f cdv)) → SS (cxOf (L2N.CX P w) P w K mg base N qual (defScope st) f cdv A outer s H E) ⟨True, fun cls d _ H' => E cls d H'⟩ (ioIx 0 m) (defBody st) F) :
    FnOk P w K mg base (L2N.CX P w) (k + 1) f fd ps (spG K mg True m (runG ps.length N.length m F)) := by
  refine okN Fn S (fun vs H Q E h => (spG_len h).1) (fun cdv A out s H vs Q E hr hsp => ?_)
  obtain ⟨hl, hm⟩ := spG_len hsp
  obtain ⟨G, ts, fp, gh, ro, nd, fr, h⟩ := hsp
  have hlen : ts.length = ps.length := by rw [← hl, ro.len]
  have hv : m.length = vs.length := by rw [hm, hl]
  exact ⟨_, (hb cdv A out s H E hr).run ⟨outer H fp, G, ioV 0 m vs⟩ (ioV_map hv), G, argsG N.length ts, argsG_rep gh ro nd fr (by omega), out_runG (X := cxOf (L2N.CX P w) P w K mg base N qual (defScope st) f cdv A out s H E) (W := ⟨True, fun cls d _ H' => E cls d H'⟩) (on := True) (a := ps.length) (E := E) (fun z => z) (fun _ _ _ _ z => z) hv h⟩
end
structure CalG (P : Program) (w : World) (K : PySem.W.Frag) (mg : Str → Option Value) (base : Heap) (CX : CXT) (on : Prop) (x : Str) (k : Nat) (m : List Bool) (F : List OT → ResG) : Prop where
  ex : ∃ f fd ps, FnOk P w K mg base CX k f fd ps (spG K mg on m F) ∧ mg x = some (.ref f) ∧ PySem.W.keepIn K (.ref f) = true ∧ Binds K fd ps []
theorem CalG.zero {P : Program} {w : World} {K : PySem.W.Frag} {mg : Str → Option Value} {base : Heap} {CX : CXT} {on : Prop} {x : Str} {st : Stmt} {ps : List Str} {k : Nat} {m : List Bool} (d : Dn K mg x st ps) : CalG P w K mg base CX on x k m (fun _ => .bad) := by
  obtain ⟨f, fd, _, hm, hk, hb⟩ := d.ex
  exact ⟨f, fd, ps, ⟨fun vs H Q E ⟨_, _, _, _, _, _, _, h⟩ => h.elim, fun _ _ _ _ _ _ _ _ _ _ _ _ _ ⟨_, _, _, _, _, _, _, h⟩ => h.elim⟩, hm, hk, hb⟩
/-- an outcome, and what was lent is back -/
def backG (as : List ArgT) (ρ : En) : ResG → ResX
  | .ok r outs => match lents as outs with
    | some l => .ok r (setAll l ρ)
    | none => .bad
  | .ex c outs => match lents as outs with
    | some l => .ex c (setAll l ρ)
    | none => .bad
  | .bad => .bad
def callA (m : List Bool) (F : List OT → ResG) : ResA → ResX
  | .ok as ρ => if maskOf as = m then match argTs as with
    | some ts => backG as ρ (F ts)
    | none => .bad else .bad
  | .ex c ρ => .ex c ρ
  | .bad => .bad
def callG (m : List Bool) (F : List OT → ResG) (fs : En → ResA) (ρ : En) : ResX := callA m F (fs ρ)
def nxG (F : List OT → ResG) (ts : List OT) : ResG := match F ts with
  | .ex _ _ => .bad
  | r => r
section
variable {X : Cx} {W : WW} {e : Expr} {es : List Expr} {fs : En → ResA} {x : Str} {k : Nat} {p pos : Pos} {CX : CXT} {on : Prop} {m : List Bool} {F : List OT → ResG}
/-- the arguments are there: the callee's promise asked -/
theorem callA_ok {B : Bs} {G H : Hp} {σ : L2.St} {ρ : En} {Q : VK} {as : List ArgT} {vs : List V} (hon : W.on → on) (r : RepA X.K X.mg B G H σ ρ as vs) (h : WrX X W B σ (callA m F (.ok as ρ)) Q) : spG X.K X.mg on m F vs H Q (WE W.w σ) := by
  unfold callA at h
  (try dsimp only at h)
  split at h
  · rename_i hm
    cases et : argTs as with
    | none => rw [et] at h; exact h.elim
    | some ts =>
      rw [et] at h
      (try dsimp only at h)
      obtain ⟨cf, c1, c2, c3, c4⟩ := r.back et
      refine ⟨G, ts, cf, r.g.gh, c1, c2, c3, ?_⟩
      cases eF : F ts with
      | bad => rw [eF] at h; exact h
      | ok t outs =>
        rw [eF, backG] at h
        (try dsimp only at h)
        cases el : lents as outs with
        | none => rw [el] at h; exact h.elim
        | some l =>
          rw [el] at h
          intro v G' H' fr fo o1 o2 o3 o4 rv rt nd at_
          have n2 := List.nodup_append.mp nd
          exact h v G' H' ((c4 G' H' outs l fo o1 o2 o3 o4 (by rw [hm]; exact rt) n2.2.1 (fun p hp => at_ p (List.mem_append_right _ hp)) el).2 t v fr rv nd fun p hp => at_ p (List.mem_append_left _ hp))
      | ex c outs =>
        rw [eF, backG] at h
        (try dsimp only at h)
        cases el : lents as outs with
        | none => rw [el] at h; exact h.elim
        | some l =>
          rw [el] at h
          refine ⟨hon h.1, fun G' H' fo cls dd o1 o2 o3 o4 rt nd at_ q => ?_⟩
          exact h.2 G' H' cls dd (c4 G' H' outs l fo o1 o2 o3 o4 (by rw [hm]; exact rt) nd at_ el).1 q
  · exact h.elim
theorem EX.callG (c : CalG X.prog X.w X.K X.mg X.base CX on x k m F) (hr : Room k X.A) (hx : ∀ σ, PassesAt CX X σ (WE W.w σ)) (hon : W.on → on) (ha : EXA X W (e :: es) fs) (hg : Gl X x := by rfl) (hdb : (x == ("__debug__" : Str)) = false := by decide)
    (he : starEach (e :: es) X.env = (false, eval e X.env) :: starEach es X.env := by rfl) (hpl : (backTo pos (starEach es X.env)).any (·.1) = false := by rfl) : EX X W (.Call (.Name x p) (e :: es) [] pos) (callG m F fs) := ⟨fun B => by
  obtain ⟨f, fd, ps, hf, hm, hk, hb⟩ := c.ex
  refine PE.mono (pe_callS (E := WE W.w) hf hr hg hm hk hb hx (ha.run B) hdb he hpl) fun σ H Q ⟨G, ρ, r, h⟩ => ⟨G, ρ, r, ?_⟩
  unfold FL.callG at h
  cases ef : fs ρ with
  | bad => rw [ef] at h; exact h.elim
  | ex c ρ1 => rw [ef] at h; exact h
  | ok as ρ1 =>
    rw [ef] at h
    exact fun vs G1 H1 r1 => callA_ok hon r1 h⟩
theorem CalG.nx (c : CalG X.prog X.w X.K X.mg X.base CX0 False x k m F) : CalG X.prog X.w X.K X.mg X.base CX0 True x k m (nxG F) := by
  obtain ⟨f, fd, ps, hf, hm, hk, hb⟩ := c.ex
  refine ⟨f, fd, ps, hf.imp fun vs H Q E ⟨G, ts, fp, a1, a2, a3, a4, h⟩ => ⟨G, ts, fp, a1, a2, a3, a4, ?_⟩, hm, hk, hb⟩
  unfold nxG at h
  cases e : F ts with
  | ok r t' => rw [e] at h; exact h
  | ex c t' => rw [e] at h; exact h.elim
  | bad => rw [e] at h; exact h
theorem EX.callG0 (c : CalG X.prog X.w X.K X.mg X.base CX0 False x k m F) (hr : Room k X.A) (ha : EXA X W (e :: es) fs) (hg : Gl X x := by rfl) (hdb : (x == ("__debug__" : Str)) = false := by decide)
    (he : starEach (e :: es) X.env = (false, eval e X.env) :: starEach es X.env := by rfl) (hpl : (backTo pos (starEach es X.env)).any (·.1) = false := by rfl) : EX X W (.Call (.Name x p) (e :: es) [] pos) (FL.callG m (nxG F) fs) := EX.callG c.nx hr px0 (fun _ => trivial) ha hg hdb he hpl
end
end FL
/-! The functional layer, part PN: displays, operators, methods over expressions that change something. -/
namespace FL
open PySem PySem.Spec PyProof.Rows L2
def ownTs : List ArgT → Option (List OT)
  | [] => some []
  | .own t :: as => (ownTs as).map (t :: ·)
  | _ => none
section
variable {K : PySem.W.Frag} {mg : Str → Option Value} {B : Bs} {G H G' H' : Hp} {σ σ' : L2.St} {ρ ρ' : En}
theorem RAs.own : ∀ {as : List ArgT} {ts : List OT} {vs : List V} {fp : List Addr}, ownTs as = some ts → RAs K mg G H σ as vs fp → ROs K mg G H ts vs fp
  | [], ts, vs, fp, e, h => by cases e; exact h
  | .own t :: as, ts, vs, fp, e, ⟨v, r, f1, f2, e1, e2, h, q⟩ => by
    obtain ⟨ts', et, rfl⟩ := Option.map_eq_some_iff.mp e
    exact ⟨v, r, f1, f2, e1, e2, h, RAs.own et q⟩
  | .lent _ _ _ :: _, _, _, _, e, _ => by cases e
theorem RepA.own {as : List ArgT} {ts : List OT} {vs : List V} (e : ownTs as = some ts) (r : RepA K mg B G H σ ρ as vs) : RepVs K mg B G H σ ρ ts vs := by
  obtain ⟨F, fv, f, h, a, b, c⟩ := r.sl
  exact ⟨r.g, r.len, F, fv, f, h.own e, a, b, c⟩
theorem RepVs.node {ts : List OT} {vs : List V} {p : Addr} {o : HO} {t : OT} (r : RepVs K mg B G H σ ρ ts vs) (hp : H p = none) (h : ∀ G' H' fs, H' p = some o → ROs K mg G' H' ts vs fs → RO K mg G' H' t (.ref p) (p :: fs)) : RepV K mg B G (upd H p o) σ ρ t (.ref p) := by
  obtain ⟨F, fv, f, ro, nd, at_, dj⟩ := r.sl
  have st : Stp G H G (upd H p o) := Stp.own r.g.gh hp
  have np : p ∉ fv := fun z => (at_ p z).1 hp
  have hO : B.O p = none := r.g.oh.free hp
  refine ⟨r.g.step st, r.len, F, p :: fv, f.step st, h _ _ _ upd_same (ro.frame (Same.refl _) fun q hq => upd_ne fun z => np (z ▸ hq)), List.nodup_cons.mpr ⟨np, nd⟩, fun q hq => ?_, fun i q hq hi => ?_⟩
  · rcases List.mem_cons.mp hq with rfl | hq
    · exact ⟨by rw [upd_same]; exact fun z => (nomatch z), r.g.gh.free hp, hO⟩
    · obtain ⟨c1, c2, c3⟩ := at_ q hq
      exact ⟨live_of st.hh c1, c2, c3⟩
  · rcases List.mem_cons.mp hq with rfl | hq
    · exact (f.at_ i _ hi).1 hp
    · exact dj i q hq hi
open Classical in
theorem RepVs.frozen {ts : List OT} {vs : List V} (r : RepVs K mg B G H σ ρ ts vs) : ∃ G', Same G G' ∧ Rep K mg B G' H σ ρ ∧ Rs K mg G' (fzs ts) vs := by
  obtain ⟨F, fv, f, ro, nd, at_, dj⟩ := r.sl
  let G' : Hp := fun p => if p ∈ fv then H p else G p
  have g1 : Same G G' := fun p o h => by
    show (if p ∈ fv then H p else G p) = some o
    split
    · exact r.g.gh p o h
    · exact h
  refine ⟨G', g1, ⟨⟨fun p o h => ?_, r.g.oh, r.g.g0.trans g1, fun p h => ?_, r.g.io⟩, r.len, F, ⟨fun i t e => ?_, f.nd, fun i p hp => ?_, f.dj⟩⟩, ro.fzs g1 fun p hp => if_pos hp⟩
  · change (if p ∈ fv then H p else G p) = some o at h
    split at h
    · exact h
    · exact r.g.gh p o h
  · show (if p ∈ fv then H p else G p) = _
    rw [if_neg fun z => h (at_ p z).2.2]
    exact r.g.og p h
  · obtain ⟨v, a, b⟩ := f.rep i t e
    exact ⟨v, a, b.frame g1 fun _ _ => rfl⟩
  · obtain ⟨a, b, c⟩ := f.at_ i p hp
    exact ⟨a, (if_neg fun z => dj i p z hp).trans b, c⟩
theorem RepV.vs {t : OT} {v : V} (r : RepV K mg B G H σ ρ t v) : RepVs K mg B G H σ ρ [t] [v] := by
  obtain ⟨F, fv, f, ro, nd, at_, dj⟩ := r.sl
  exact ⟨r.g, r.len, F, fv, f, ROs.one ro, nd, at_, dj⟩
theorem RepV.frozenG {t : OT} {v : V} (r : RepV K mg B G H σ ρ t v) : ∃ G', Same G G' ∧ Rep K mg B G' H σ ρ ∧ R K mg G' (fz t) v := by
  obtain ⟨G', a, b, c⟩ := r.vs.frozen
  obtain ⟨w, e, h⟩ := Rs.one (show Rs K mg G' [fz t] [v] from c)
  cases e
  exact ⟨G', a, b, h⟩
theorem RepV.step {t : OT} {v : V} (r : RepV K mg B G H σ ρ t v) (s : Stp G H G' H') : RepV K mg B G' H' σ ρ t v := by
  obtain ⟨F, fv, f, ro, nd, at_, dj⟩ := r.sl
  refine ⟨r.g.step s, r.len, F, fv, f.step s, ro.frame s.gg fun p hp => same_at s.hh (at_ p hp).1, nd, fun p hp => ?_, dj⟩
  obtain ⟨a, b, c⟩ := at_ p hp
  exact ⟨live_of s.hh a, by rw [s.old p a]; exact b, c⟩
theorem upd_side {fp : List Addr} {l : Addr} {o : HO} (hl : l ∈ fp) (gh : Same G H) (fr : ∀ p ∈ fp, G p = none) : Same (outer H fp) (upd H l o) ∧ Same G (upd H l o) := by
  refine ⟨fun p q h => ?_, fun p q h => ?_⟩
  · unfold outer at h
    split at h
    · cases h
    · rename_i n
      rw [upd_ne (fun (z : p = l) => n (by rw [z]; exact hl))]; exact h
  · rw [upd_ne (fun (z : p = l) => by rw [z, fr l hl] at h; cases h)]; exact gh p q h
end
section
variable {X : Cx} {W : WW} {io : List Nat} {a b e e2 : Expr} {es : List Expr} {fa fb f : En → ResX} {fs : En → ResA} {fd fi : En → Res D} {fp : En → Res (List Nat)} {pos ppos apos cpos pos' : Pos} {x : Str}
/-! displays -/
def mkX (g : List OT → Option OT) : ResA → ResX
  | .ok as ρ => match ownTs as with
    | some ts => match g ts with
      | some t => .ok t ρ
      | none => .bad
    | none => .bad
  | .ex c ρ => .ex c ρ
  | .bad => .bad
def tupO (ts : List OT) : Option OT := if ts.length ≤ 16777216 then some (.tup ts) else none
def lstO (ts : List OT) : Option OT := if ts.length ≤ 16777216 then some (.lst ts) else none
def disX (g : List OT → Option OT) (fs : En → ResA) (ρ : En) : ResX := mkX g (fs ρ)
theorem EX.tup {n} (ha : EXA X W es fs) : EX X W (.Tuple es n pos) (disX tupO fs) := ⟨fun B => PE.mono (pe_tup (ha.run B)) fun σ H Q ⟨G, ρ, r, h⟩ => ⟨G, ρ, r, by
  unfold disX at h
  cases ef : fs ρ with
  | bad => rw [ef] at h; exact h.elim
  | ex c ρ1 => rw [ef] at h; exact h
  | ok as ρ1 =>
    rw [ef, mkX] at h
    (try dsimp only at h)
    cases eo : ownTs as with
    | none => rw [eo] at h; exact h.elim
    | some ts =>
      rw [eo] at h
      (try dsimp only at h)
      unfold tupO at h
      split at h
      · rename_i t et
        split at et
        · rename_i hl
          cases et
          intro vs G1 H1 r1
          have rv := r1.own eo
          have hlen : vs.length = ts.length := by
            obtain ⟨F, fv, _, ro, _⟩ := rv.sl
            exact ro.len
          exact ⟨by rw [hlen]; exact sz_le hl, fun p hp => h _ G1 _ (rv.node hp fun G' H' fs e q => ⟨p, vs, fs, rfl, rfl, sz_le hl, e, q⟩)⟩
        · cases et
      · exact h.elim⟩⟩
theorem EX.lst (ha : EXA X W es fs) : EX X W (.List es pos) (disX lstO fs) := ⟨fun B => PE.mono (pe_lst (ha.run B)) fun σ H Q ⟨G, ρ, r, h⟩ => ⟨G, ρ, r, by
  unfold disX at h
  cases ef : fs ρ with
  | bad => rw [ef] at h; exact h.elim
  | ex c ρ1 => rw [ef] at h; exact h
  | ok as ρ1 =>
    rw [ef, mkX] at h
    (try dsimp only at h)
    cases eo : ownTs as with
    | none => rw [eo] at h; exact h.elim
    | some ts =>
      rw [eo] at h
      (try dsimp only at h)
      unfold lstO at h
      split at h
      · rename_i t et
        split at et
        · rename_i hl
          cases et
          intro vs G1 H1 r1
          have rv := r1.own eo
          have hlen : vs.length = ts.length := by
            obtain ⟨F, fv, _, ro, _⟩ := rv.sl
            exact ro.len
          exact ⟨by rw [hlen]; exact sz_le hl, fun p hp => h _ G1 _ (rv.node hp fun G' H' fs e q => ⟨p, vs, fs, rfl, rfl, sz_le hl, e, q⟩)⟩
        · cases et
      · exact h.elim⟩⟩
/-! operators, both sides -/
def op2Y (g : D → D → Option D) (fa fb : En → ResX) (ρ : En) : ResX := match fa ρ with
  | .ok t ρ1 => match fb ρ1 with
    | .ok u ρ2 => match g (fz t) (fz u) with
      | some d => .ok (.d d) ρ2
      | none => .bad
    | .ex c ρ2 => .ex c ρ2
    | .bad => .bad
  | .ex c ρ1 => .ex c ρ1
  | .bad => .bad
theorem EX.anyB (h : EX X W e f) : PE X e fun σ H Q => ∃ B G ρ, Rep X.K X.mg B G H σ ρ ∧ WrX X W B σ (f ρ) Q := ⟨fun pins s σ H Q I ⟨B, q⟩ => (h.run B).run pins s σ H Q I q⟩
theorem op2Y_next {B : Bs} {G H : Hp} {σ : L2.St} {ρ : En} {Q : VK} {g : D → D → Option D} (r : Rep X.K X.mg B G H σ ρ) (h : WrX X W B σ (op2Y g fa fb ρ) Q) : ∃ G ρ, Rep X.K X.mg B G H σ ρ ∧ WrX X W B σ (fa ρ) fun x H1 => ∃ B G ρ, Rep X.K X.mg B G H1 σ ρ ∧ WrX X W B σ (fb ρ) fun y H2 => rD X g x y H2 Q := by
  refine ⟨G, ρ, r, ?_⟩
  unfold op2Y at h
  cases ea : fa ρ with
  | bad => rw [ea] at h; exact h.elim
  | ex c ρ1 => rw [ea] at h; exact h
  | ok t ρ1 =>
    rw [ea] at h
    (try dsimp only at h)
    intro v G1 H1 r1
    obtain ⟨G2, g12, r2, rt⟩ := r1.frozenG
    have r3 := r2.unbase (G1 := G2) (Same.refl _) fun _ _ => rfl
    refine ⟨_, G2, ρ1, r3, ?_⟩
    have gB := r2.g
    cases eb : fb ρ1 with
    | bad => rw [eb] at h; exact h.elim
    | ex c ρ2 =>
      rw [eb] at h
      exact ⟨h.1, fun G' H' cls dd q z => h.2 G' H' cls dd (q.base gB.g0 gB.og) z⟩
    | ok u ρ2 =>
      rw [eb] at h
      (try dsimp only at h)
      cases eg : g (fz t) (fz u) with
      | none => rw [eg] at h; exact h.elim
      | some d =>
        rw [eg] at h
        intro w G4 H4 r4
        obtain ⟨G5, g45, r5, ru⟩ := r4.frozenG
        have gg : Same G2 G5 := r5.g.g0
        exact ⟨G5, fz t, fz u, d, r5.gh, R.mono gg rt, ru, eg, fun y G6 H6 s q => h y G6 H6 (((r5.base gB.g0 gB.og).step s).val q)⟩
theorem EX.bin2 {op : Operator} {g : D → D → Option D} (ho : OpD X (binaryOp op) g) (ha : EX X W a fa) (hb : EX X W b fb) : EX X W (.BinOp a op b pos) (op2Y g fa fb) := ⟨fun B => PE.mono (pe_op ho (ha.run B) hb.anyB) fun σ H Q ⟨G, ρ, r, h⟩ => op2Y_next r h⟩
/-! built-ins and defs of data, the arguments frozen -/
def calX (g : List D → Option D) : ResA → ResX
  | .ok as ρ => match ownTs as with
    | some ts => match g (fzs ts) with
      | some d => .ok (.d d) ρ
      | none => .bad
    | none => .bad
  | .ex c ρ => .ex c ρ
  | .bad => .bad
def calY (g : List D → Option D) (fs : En → ResA) (ρ : En) : ResX := calX g (fs ρ)
theorem EX.callB {id : String} {p : Pos} {g : List D → Option D} (hc : CallD X (.builtin id) g) (hm : X.mg x = none) (hv : bootBuiltins x = some (.builtin id)) (ha : EXA X W (e :: es) fs) (hg : Gl X x := by rfl) (hn : x ≠ ("__name__" : Str) := by decide) (hdb : (x == ("__debug__" : Str)) = false := by decide) (hs : starEach (e :: es) X.env = (false, eval e X.env) :: starEach es X.env := by rfl)
    (hp : (backTo pos (starEach es X.env)).any (·.1) = false := by rfl) : EX X W (.Call (.Name x p) (e :: es) [] pos) (calY g fs) := ⟨fun B => PE.mono (pe_callB hc hg hm hv (ha.run B) hn hdb hs hp) fun σ H Q ⟨G, ρ, r, h⟩ => ⟨G, ρ, r, by
  unfold calY at h
  cases ef : fs ρ with
  | bad => rw [ef] at h; exact h.elim
  | ex c ρ1 => rw [ef] at h; exact h
  | ok as ρ1 =>
    rw [ef, calX] at h
    (try dsimp only at h)
    cases eo : ownTs as with
    | none => rw [eo] at h; exact h.elim
    | some ts =>
      rw [eo] at h
      (try dsimp only at h)
      cases eg : g (fzs ts) with
      | none => rw [eg] at h; exact h.elim
      | some d =>
        rw [eg] at h
        intro vs G1 H1 r1
        obtain ⟨G2, g12, r2, rs⟩ := (r1.own eo).frozen
        exact ⟨G2, fzs ts, d, r2.gh, rs, eg, fun v G' H' s q => h v G' H' ((r2.step s).val q)⟩⟩⟩
/-- a def of data -/
def callY (F : List D → Res OT) : ResA → ResX
  | .ok as ρ => match ownTs as with
    | some ts => match F (fzs ts) with
      | .ok t => .ok t ρ
      | .ex c => .ex c ρ
      | .bad => .bad
    | none => .bad
  | .ex c ρ => .ex c ρ
  | .bad => .bad
def callD (F : List D → Res OT) (fs : En → ResA) (ρ : En) : ResX := callY F (fs ρ)
theorem EX.callD {k : Nat} {p : Pos} {CX : CXT} {on : Prop} {F : List D → Res OT} (c : Cal X.prog X.w X.K X.mg X.base CX on x k F) (hr : Room k X.A) (hx : ∀ σ, PassesAt CX X σ (WE W.w σ)) (hon : W.on → on) (ha : EXA X W (e :: es) fs) (hg : Gl X x := by rfl) (hdb : (x == ("__debug__" : Str)) = false := by decide)
    (he : starEach (e :: es) X.env = (false, eval e X.env) :: starEach es X.env := by rfl) (hpl : (backTo pos (starEach es X.env)).any (·.1) = false := by rfl) : EX X W (.Call (.Name x p) (e :: es) [] pos) (FL.callD F fs) := ⟨fun B => by
  obtain ⟨f, fd, ps, hf, hm, hk, hb⟩ := c.ex
  refine PE.mono (pe_callS (E := WE W.w) hf hr hg hm hk hb hx (ha.run B) hdb he hpl) fun σ H Q ⟨G, ρ, r, h⟩ => ⟨G, ρ, r, ?_⟩
  unfold FL.callD at h
  cases ef : fs ρ with
  | bad => rw [ef] at h; exact h.elim
  | ex c ρ1 => rw [ef] at h; exact h
  | ok as ρ1 =>
    rw [ef, callY] at h
    (try dsimp only at h)
    cases eo : ownTs as with
    | none => rw [eo] at h; exact h.elim
    | some ts =>
      rw [eo] at h
      (try dsimp only at h)
      intro vs G1 H1 r1
      obtain ⟨G2, g12, r2, rs⟩ := (r1.own eo).frozen
      refine ⟨G2, fzs ts, r2.gh, rs, ?_⟩
      cases eF : F (fzs ts) with
      | bad => rw [eF] at h; exact h.elim
      | ex c => rw [eF] at h; exact ⟨hon h.1, fun G' H' cls dd s q => h.2 G' H' cls dd (r2.step s) q⟩
      | ok t =>
        rw [eF] at h
        exact fun v G' H' s ⟨fp, q1, q2, q3⟩ => h v G' H' (r2.fresh s q1 q2 q3)⟩
/-! methods that change what they are asked of, and tell something -/
def rG (K : PySem.W.Frag) (mg : Str → Option Value) (M : OT → List OT → Option (OT × OT)) : V → List V → Hp → VK → Prop := fun x vs H Q => ∃ G u ts fp r u', Same G H ∧ ROs K mg G H (u :: ts) (x :: vs) fp ∧ fp.Nodup ∧ (∀ p ∈ fp, G p = none) ∧ M u ts = some (r, u') ∧
  ∀ v G' H' fr fo, Same (outer H fp) H' → Same G G' → Same G' H' → (∀ p, H p ≠ none → p ∉ fp → G' p = G p) → RO K mg G' H' r v fr → RO K mg G' H' u' x fo → (fr ++ fo).Nodup → (∀ p ∈ fr ++ fo, G' p = none ∧ (H p = none ∨ p ∈ fp)) → Q v H'
def MtG (X : Cx) (id : String) (M : OT → List OT → Option (OT × OT)) : Prop := MtR X id (rG X.K X.mg M)
def methG (M : OT → List OT → Option (OT × OT)) : List OT → ResG
  | u :: ts => match M u ts with
    | some (r, u') => .ok r [u']
    | none => .bad
  | _ => .bad
/-- the type at the front of a path -/
def tyO (T : String) : OT → Bool
  | .lst _ => T == "list"
  | .dK _ _ => T == "dict"
  | .dT _ _ => T == "dict"
  | _ => false
theorem tyO_ok {K : PySem.W.Frag} {mg : Str → Option Value} {G H : Hp} {T : String} {t : OT} {v : V} {fp : List Addr} (h : tyO T t = true) (r : RO K mg G H t v fp) : tyV K T v H := by
  cases t with
  | lst ts =>
    obtain ⟨a, vs, fs, rfl, _, _, ha, _⟩ := r
    have : T = "list" := by simpa [tyO] using h
    subst this
    exact tyV_lst ha
  | dK ks ts =>
    obtain ⟨a, vs, fs, rfl, _, _, ha, _⟩ := r
    have : T = "dict" := by simpa [tyO] using h
    subst this
    exact .inr (.inr (.inl ⟨rfl, .inl ⟨_, ha⟩⟩))
  | dT ks ts =>
    obtain ⟨a, vs, fs, rfl, _, _, ha, _⟩ := r
    have : T = "dict" := by simpa [tyO] using h
    subst this
    exact .inr (.inr (.inl ⟨rfl, .inr ⟨_, ha⟩⟩))
  | d x => simp [tyO] at h
  | tup ts => simp [tyO] at h
  | ins C ns ts => simp [tyO] at h
def mtB (M : OT → List OT → Option (OT × OT)) : ResA → ResX
  | .ok as ρ => if (maskOf as).tail.all (fun b => !b) = true then callA (maskOf as) (methG M) (.ok as ρ) else .bad
  | .ex c ρ => .ex c ρ
  | .bad => .bad
def mtT (T : String) (s : Nat) (M : OT → List OT → Option (OT × OT)) (fp : En → Res (List Nat)) (fs : En → ResA) (ρ : En) : ResX := match fp ρ with
  | .ok p => match ρ[s]? with
    | some (some t0) => match t0.sub p with
      | some u => if tyO T u = true then mtB M (tailX (.lent s t0 p) (fs (ρ.set s none))) else .bad
      | none => .bad
    | _ => .bad
  | .ex c => .ex c ρ
  | .bad => .bad
theorem pick_false {α : Type} : ∀ {m : List Bool} (vs : List α), m.all (fun b => !b) = true → pick m vs = []
  | [], vs, _ => by cases vs <;> rfl
  | true :: m, vs, h => by simp at h
  | false :: m, [], h => rfl
  | false :: m, v :: vs, h => by rw [pick]; exact pick_false vs (by simpa using h)
theorem lend_next {B : Bs} {G1 H1 : Hp} {σ : L2.St} {ρ : En} {s : Nat} {t0 u : OT} {p : List Nat} {v v0 : V} {Q : List V → Hp → Prop} (r1 : Rep X.K X.mg B G1 H1 σ ρ) (et : ρ[s]? = some (some t0)) (eu : t0.sub p = some u) (q1 : σ[s]? = some (some v0)) (q2 : walkV H1 v0 p = some v)
    (w : WrA X W B σ (tailX (.lent s t0 p) (fs (ρ.set s none))) Q) : ∃ B', Rep X.K X.mg B' G1 H1 σ (ρ.set s none) ∧ WrA X W B' σ (fs (ρ.set s none)) fun vs H' => Q (v :: vs) H' := by
  obtain ⟨F, f1⟩ := r1.sl
  obtain ⟨v1, a1, a2⟩ := f1.rep s t0 et
  rw [q1] at a1
  cases a1
  have f2 : Slots X.K X.mg B G1 H1 σ (ρ.set s none) (fun j => if j = s then [] else F j) := by
    refine ⟨fun i u e => ?_, fun i => ?_, fun i p hp => ?_, fun i j p ne hp hq => ?_⟩
    · rcases get_set e with ⟨_, _, e2⟩ | ⟨ne, e⟩
      · cases e2
      · obtain ⟨w, a, b⟩ := f1.rep i u e
        exact ⟨w, a, by rw [if_neg (fun z => ne z.symm)]; exact b⟩
    · (try dsimp only); split
      · exact List.nodup_nil
      · exact f1.nd i
    · (try dsimp only at hp); split at hp
      · cases hp
      · exact f1.at_ i p hp
    · (try dsimp only at hp hq)
      split at hp
      · cases hp
      · split at hq
        · cases hq
        · exact f1.dj i j p ne hp hq
  exact ⟨holdB B G1 H1 (F s), tail_next (a := .lent s t0 p) (v := v) r1.g (by rw [List.length_set]; exact r1.len) f2 ⟨v0, u, q1, a2, eu, q2⟩ (f1.nd s) (f1.at_ s) (fun i x hx hi => by
    (try dsimp only at hi); split at hi
    · cases hi
    · rename_i ne; exact f1.dj i s x ne hi hx) w⟩
theorem EXA.anyB (h : EXA X W es fs) : PA X es fun σ H Q => ∃ B G ρ, Rep X.K X.mg B G H σ ρ ∧ WrA X W B σ (fs ρ) Q := ⟨fun pos pins s σ H Q I ⟨B, q⟩ => (h.run B).run pos pins s σ H Q I q⟩
/-- the receiver is there, its arguments are asked -/
theorem mtT_next {T : String} {s : Nat} {M : OT → List OT → Option (OT × OT)} {B : Bs} {G H : Hp} {σ : L2.St} {ρ : En} {Q : VK} {t : TA} (ht : ∀ σ H Q, (∃ B G ρ, Rep X.K X.mg B G H σ ρ ∧ WrA X W B σ (fs ρ) Q) → t σ H Q) (r : Rep X.K X.mg B G H σ ρ) (h : WrX X W B σ (mtT T s M fp fs ρ) Q) :
    lift X W (relW σ s) B fp σ H fun x H1 => tyV X.K T x H1 ∧ t σ H1 fun vs H2 => rG X.K X.mg M x vs H2 Q := by
  unfold mtT at h
  refine ⟨G, ρ, r, ?_⟩
  cases ep : fp ρ with
  | bad => rw [ep] at h; exact h.elim
  | ex c =>
    rw [ep] at h
    exact ⟨h.1, fun G' H' cls dd s q => h.2 G' H' cls dd (r.step s) q⟩
  | ok p =>
    rw [ep] at h
    (try dsimp only at h)
    intro v G1 H1 s1 ⟨v0, q1, q2⟩
    have r1 := r.step s1
    cases et : ρ[s]? with
    | none => rw [et] at h; exact h.elim
    | some o =>
      cases o with
      | none => rw [et] at h; exact h.elim
      | some t0 =>
        rw [et] at h
        (try dsimp only at h)
        cases eu : t0.sub p with
        | none => rw [eu] at h; exact h.elim
        | some u =>
          rw [eu] at h
          (try dsimp only at h)
          split at h
          · rename_i ty
            obtain ⟨v0', w0, gu, h1, h2, h3, _⟩ := r1.sub et eu
            rw [q1] at h1
            cases h1
            rw [q2] at h2
            cases h2
            refine ⟨tyO_ok ty h3, ?_⟩
            have w : WrA X W B σ (tailX (.lent s t0 p) (fs (ρ.set s none))) (fun vs H2 => ∀ us, vs = v :: us → rG X.K X.mg M v us H2 Q) := by
              cases ef : tailX (.lent s t0 p) (fs (ρ.set s none)) with
              | bad => rw [ef] at h; exact h
              | ex c ρ2 => rw [ef] at h; exact h
              | ok as ρ2 =>
                rw [ef, mtB] at h
                (try dsimp only at h)
                split at h
                · rename_i hm
                  intro vs G2 H2 r2 us evs
                  subst evs
                  obtain ⟨G3, ts, cf, a1, a2, a3, a4, a5⟩ := callA_ok (on := W.on) (fun z => z) r2 h
                  cases ts with
                  | nil => obtain ⟨z, _⟩ := a2; cases z
                  | cons u0 ts =>
                    rw [methG] at a5
                    (try dsimp only at a5)
                    cases eM : M u0 ts with
                    | none => rw [eM] at a5; exact a5.elim
                    | some q =>
                      obtain ⟨r0, u1⟩ := q
                      rw [eM] at a5
                      (try dsimp only at a5)
                      refine ⟨G3, u0, ts, cf, r0, u1, a1, a2, a3, a4, eM, fun y G' H' fr fo o1 o2 o3 o4 rv ro nd at_ => a5 y G' H' fr fo o1 o2 o3 o4 rv ?_ nd at_⟩
                      obtain ⟨m0, em⟩ : ∃ m0, maskOf as = true :: m0 := by
                        cases e2 : fs (ρ.set s none) with
                        | bad => rw [e2] at ef; cases ef
                        | ex c ρ3 => rw [e2] at ef; cases ef
                        | ok as' ρ3 => rw [e2, tailX] at ef; cases ef; exact ⟨_, rfl⟩
                      rw [em] at hm ⊢
                      rw [pick, pick_false us (show m0.all _ = true from hm)]
                      exact ROs.one ro
                · exact h.elim
            obtain ⟨B', rB, wB⟩ := lend_next r1 et eu q1 q2 w
            refine ht _ _ _ ⟨B', G1, _, rB, ?_⟩
            cases ef : fs (ρ.set s none) with
            | bad => rw [ef] at wB; exact wB
            | ex c ρ2 => rw [ef] at wB; exact wB
            | ok as ρ2 => rw [ef] at wB; exact fun vs G' H' q => wB vs G' H' q vs rfl
          · exact h.elim
theorem EX.mt {T : String} {s : Nat} {M : OT → List OT → Option (OT × OT)} {o : Expr} {name id : String} (hM : MtG X id M) (pa : PlainAttrs T) (slot : Slot T name id) (hty : typeOf (.builtin id) = pure (.type "method_descriptor")) (he : EP X W s o fp) (ha : EXA X W (e :: es) fs)
    (hbase : attributeBase o name X.env (eval o X.env) = eval o X.env := by rfl)
    (hfew : ((backTo cpos (starEach (e :: es) X.env)).all (fun y => !y.1) && (backToKw cpos (keywordEach [] X.env)).all (fun y => y.1.isSome) && decide ((e :: es).length + ([] : List Keyword).length + (if ([] : List Keyword).isEmpty then 0 else 1) < 30)) = true := by rfl)
    (hline : (apos.endLine == cpos.line) = true := by rfl) (hs : starEach (e :: es) X.env = (false, eval e X.env) :: starEach es X.env := by rfl) (hp : (backTo cpos (starEach es X.env)).any (·.1) = false := by rfl) :
    EX X W (.Call (.Attribute o name apos) (e :: es) [] cpos) (mtT T s M fp fs) := ⟨fun B =>
  PE.mono (pe_bm pa slot hty hM (he.run B) ha.anyB hbase hfew hline hs hp) fun σ H Q ⟨G, ρ, r, h⟩ => mtT_next (fun _ _ _ z => z) r h⟩
theorem EX.mt0 {T : String} {s : Nat} {M : OT → List OT → Option (OT × OT)} {o : Expr} {name id : String} (hM : MtG X id M) (pa : PlainAttrs T) (slot : Slot T name id) (hty : typeOf (.builtin id) = pure (.type "method_descriptor")) (he : EP X W s o fp)
    (hbase : attributeBase o name X.env (eval o X.env) = eval o X.env := by rfl) (hline : (apos.endLine == cpos.line) = true := by rfl) :
    EX X W (.Call (.Attribute o name apos) [] [] cpos) (mtT T s M fp nilX) := ⟨fun B =>
  PE.mono (pe_bm0 pa slot hty hM (he.run B) hbase hline) fun σ H Q ⟨G, ρ, r, h⟩ => mtT_next (t := fun _ H Q => Q [] H) (fs := nilX) (fun σ H Q ⟨B, G, ρ, r, w⟩ => by
    obtain ⟨F, f⟩ := r.sl
    exact w [] G H ⟨r.g, r.len, F, [], f, ⟨rfl, rfl⟩, List.nodup_nil, fun p hp => absurd hp (by simp), fun i p hp => absurd hp (by simp)⟩) r h⟩
/-! what they do -/
def appG : OT → List OT → Option (OT × OT)
  | .lst us, [t] => if us.length < 16777216 then some (.d .non, .lst (us ++ [t])) else none
  | _, _ => none
def insG : OT → List OT → Option (OT × OT)
  | .lst us, [.d (.int i), t] => if 0 ≤ i ∧ i < 2 ^ 63 ∧ us.length < 16777216 then some (.d .non, .lst (us.take i.toNat ++ ([t] ++ us.drop i.toNat))) else none
  | _, _ => none
def popG : OT → List OT → Option (OT × OT)
  | .lst us, [] => us.getLast?.map fun t => (t, .lst us.dropLast)
  | _, _ => none
def popAtG : OT → List OT → Option (OT × OT)
  | .lst us, [.d (.int i)] => if -(2 ^ 63) ≤ i ∧ i < 2 ^ 63 then (ixN us.length i).bind fun k => us[k]?.map fun t => (t, .lst (us.take k ++ us.drop (k + 1))) else none
  | _, _ => none
def kdrop {κ α : Type} [DecidableEq κ] : List κ → List α → κ → List κ × List α
  | k :: ks, x :: xs, q => if k = q then kdrop ks xs q else (k :: (kdrop ks xs q).1, x :: (kdrop ks xs q).2)
  | _, _, _ => ([], [])
def dpopG : OT → List OT → Option (OT × OT)
  | .dK ks us, [.d k] => (keyOf k).bind fun q => (keyIx ks q).bind fun j => us[j]?.map fun t => (t, .dK (kdrop ks us q).1 (kdrop ks us q).2)
  | _, _ => none
end
end FL
/-! The functional layer, part PO: what the methods of lists and dicts do. -/
namespace FL
open PySem PySem.Spec PyProof.Rows L2
section
variable {K : PySem.W.Frag} {mg : Str → Option Value} {G H G' H' : Hp}
theorem ROs.cons_inv {t : OT} {ts : List OT} {v : V} {vs : List V} {fp : List Addr} (h : ROs K mg G H (t :: ts) (v :: vs) fp) : ∃ f1 f2, fp = f1 ++ f2 ∧ RO K mg G H t v f1 ∧ ROs K mg G H ts vs f2 := by
  obtain ⟨w, r, f1, f2, e1, e2, a, b⟩ := h
  cases e1
  exact ⟨f1, f2, e2, a, b⟩
theorem ROs.one_inv {t : OT} {vs : List V} {fp : List Addr} (h : ROs K mg G H [t] vs fp) : ∃ v, vs = [v] ∧ RO K mg G H t v fp := by
  obtain ⟨w, r, f1, f2, e1, e2, a, e3, e4⟩ := h
  subst e3 e4 e1
  rw [List.append_nil] at e2
  subst e2
  exact ⟨w, rfl, a⟩
theorem ROs.nil_inv {vs : List V} {fp : List Addr} (h : ROs K mg G H [] vs fp) : vs = [] ∧ fp = [] := h
theorem keyIx_drop {κ : Type} [DecidableEq κ] {q : κ} : ∀ {ks : List κ} {ws : List V}, (kdrop ks ws q).1.zip (kdrop ks ws q).2 = dropK (ks.zip ws) q
  | [], ws => by cases ws <;> rfl
  | k :: ks, [] => rfl
  | k :: ks, w :: ws => by
    rw [List.zip_cons_cons]
    unfold dropK
    rw [List.filter_cons]
    by_cases e : k = q
    · rw [if_neg (by simp [e]), kdrop, if_pos e, keyIx_drop]; rfl
    · rw [if_pos (by simp [e]), kdrop, if_neg e]
      exact congrArg (List.cons (k, w)) (keyIx_drop (ks := ks) (ws := ws))
theorem kdrop_len {κ α : Type} [DecidableEq κ] {q : κ} : ∀ {ks : List κ} {xs : List α}, (kdrop ks xs q).1.length = (kdrop ks xs q).2.length
  | [], xs => by cases xs <;> rfl
  | k :: ks, [] => rfl
  | k :: ks, x :: xs => by
    unfold kdrop
    split
    · exact kdrop_len
    · rw [List.length_cons, List.length_cons, kdrop_len]
theorem kdrop_fst {κ α β : Type} [DecidableEq κ] {q : κ} : ∀ {ks : List κ} {xs : List α} {ys : List β}, xs.length = ys.length → (kdrop ks xs q).1 = (kdrop ks ys q).1
  | [], xs, ys, _ => by cases xs <;> cases ys <;> rfl
  | k :: ks, [], [], _ => rfl
  | k :: ks, x :: xs, y :: ys, h => by
    unfold kdrop
    split
    · exact kdrop_fst (by simpa using h)
    · simp only [List.cons.injEq, true_and]
      exact kdrop_fst (by simpa using h)
  | _ :: _, [], _ :: _, h => nomatch h
  | _ :: _, _ :: _, [], h => nomatch h
theorem ROs.kdrop {κ : Type} [DecidableEq κ] {q : κ} : ∀ {ks : List κ} {ts : List OT} {vs : List V} {fs : List Addr}, ROs K mg G H ts vs fs → ∃ fs', ROs K mg G H (FL.kdrop ks ts q).2 (FL.kdrop ks vs q).2 fs' ∧ fs'.Sublist fs
  | [], ts, vs, fs, h => by
    refine ⟨[], ?_, List.nil_sublist _⟩
    cases ts <;> cases vs <;> exact ⟨rfl, rfl⟩
  | k :: ks, [], vs, fs, h => by
    obtain ⟨rfl, rfl⟩ := h
    exact ⟨[], ⟨rfl, rfl⟩, List.nil_sublist _⟩
  | k :: ks, t :: ts, _, _, ⟨v, r, f1, f2, e1, e2, h, q'⟩ => by
    subst e1 e2
    obtain ⟨fs', a, b⟩ := q'.kdrop (ks := ks) (q := q)
    unfold FL.kdrop
    split
    · exact ⟨fs', a, b.trans (List.sublist_append_right _ _)⟩
    · exact ⟨f1 ++ fs', ⟨v, _, f1, fs', rfl, rfl, h, a⟩, List.Sublist.append (List.Sublist.refl _) b⟩
/-- a dict's item, and the others -/
theorem ROs.kpick {κ : Type} [DecidableEq κ] {q : κ} : ∀ {ks : List κ} {ts : List OT} {vs : List V} {fs : List Addr} {j : Nat} {t : OT}, ROs K mg G H ts vs fs → keyIx ks q = some j → ts[j]? = some t → ∃ w fj fs', vs[j]? = some w ∧ RO K mg G H t w fj ∧ ROs K mg G H (FL.kdrop ks ts q).2 (FL.kdrop ks vs q).2 fs' ∧ fj.Sublist fs ∧ fs'.Sublist fs ∧ ∀ p ∈ fj, fs.Nodup → p ∉ fs'
  | [], _, _, _, _, _, _, e, _ => nomatch e
  | k :: ks, [], vs, fs, j, t, h, e, et => by cases et
  | k :: ks, t0 :: ts, _, _, j, t, ⟨v, r, f1, f2, e1, e2, h, q'⟩, e, et => by
    subst e1 e2
    unfold keyIx at e
    split at e
    · rename_i ek
      cases e
      cases et
      obtain ⟨fs', a, b⟩ := q'.kdrop (ks := ks) (q := q)
      unfold FL.kdrop
      rw [if_pos ek, if_pos ek]
      exact ⟨v, f1, fs', rfl, h, a, List.sublist_append_left _ _, b.trans (List.sublist_append_right _ _), fun p hp nd hq => (List.nodup_append.mp nd).2.2 p hp p (b.subset hq) rfl⟩
    · rename_i ek
      obtain ⟨i, hi, rfl⟩ := Option.map_eq_some_iff.mp e
      rw [List.getElem?_cons_succ] at et
      obtain ⟨w, fj, fs', a1, a2, a3, a4, a5, a6⟩ := q'.kpick (ks := ks) hi et
      unfold FL.kdrop
      rw [if_neg ek, if_neg ek]
      refine ⟨w, fj, f1 ++ fs', by rw [List.getElem?_cons_succ]; exact a1, a2, ⟨v, _, f1, fs', rfl, rfl, h, a3⟩, a4.trans (List.sublist_append_right _ _), List.Sublist.append (List.Sublist.refl _) a5, fun p hp nd hq => ?_⟩
      obtain ⟨n1, n2, d⟩ := List.nodup_append.mp nd
      rcases List.mem_append.mp hq with hq | hq
      · exact d p hq p (a4.subset hp) rfl
      · exact a6 p hp n2 hq
end
section
variable {X : Cx}
/-- the post of a method, one object changed -/
theorem rG_end {K : PySem.W.Frag} {mg : Str → Option Value} {G H : Hp} {l : Addr} {o : HO} {fp fr fo : List Addr} {r u' : OT} {v x : V} {Q : VK} (gh : Same G H) (hl : l ∈ fp) (fg : ∀ p ∈ fp, G p = none)
    (k : ∀ v G' H' fr fo, Same (outer H fp) H' → Same G G' → Same G' H' → (∀ p, H p ≠ none → p ∉ fp → G' p = G p) → RO K mg G' H' r v fr → RO K mg G' H' u' x fo → (fr ++ fo).Nodup → (∀ p ∈ fr ++ fo, G' p = none ∧ (H p = none ∨ p ∈ fp)) → Q v H')
    (hr : RO K mg G (upd H l o) r v fr) (hu : RO K mg G (upd H l o) u' x fo) (nd : (fr ++ fo).Nodup) (sub : ∀ p ∈ fr ++ fo, p ∈ fp) : Q v (upd H l o) := by
  obtain ⟨s1, s2⟩ := upd_side (o := o) hl gh fg
  exact k v G _ fr fo s1 (Same.refl _) s2 (fun _ _ _ => rfl) hr hu nd fun p hp => ⟨fg p (sub p hp), .inr (sub p hp)⟩
theorem app_mtG : MtG X "list.append" appG := by
  rintro pins s σ H x vs v us Q I rx rv ⟨G, u, ts, fp, r, u', gh, ro, nd, fg, hm, k⟩
  unfold appG at hm
  split at hm
  · rename_i us0 t
    split at hm
    · rename_i hlt
      cases hm
      obtain ⟨f1, f2, rfl, ⟨l, ws, gs, rfl, rfl, sz, hl, q⟩, b⟩ := ro.cons_inv
      obtain ⟨w, rfl, rt⟩ := b.one_inv
      have ndl : l ∉ gs ++ f2 := by
        have := nd
        rw [List.cons_append, List.nodup_cons] at this
        exact this.1
      refine mt_append pins s σ H _ _ v us Q I rx rv ⟨l, ws, w, rfl, rfl, hl, by rw [q.len]; exact sz_lt hlt, ?_⟩
      refine rG_end (fr := []) (fo := l :: (gs ++ f2)) gh (by simp) fg k (RO.dd rfl) ⟨l, _, gs ++ f2, rfl, rfl, by rw [List.length_append]; exact sz_lt hlt, upd_same, ROs.append (q.frame (Same.refl _) fun p hp => upd_ne fun (z : p = l) => ndl (by rw [← z]; simp [hp])) (ROs.one (rt.frame (Same.refl _) fun p hp => upd_ne fun (z : p = l) => ndl (by rw [← z]; simp [hp])))⟩ (by simpa using nd) fun p hp => by simpa using hp
    · cases hm
  · cases hm
theorem ins_mtG : MtG X "list.insert" insG := by
  rintro pins s σ H x vs v us Q I rx rv ⟨G, u, ts, fp, r, u', gh, ro, nd, fg, hm, k⟩
  unfold insG at hm
  split at hm
  · rename_i us0 i t
    split at hm
    · rename_i hlt
      cases hm
      obtain ⟨f1, f2, rfl, ⟨l, ws, gs, rfl, rfl, sz, hl, q⟩, b⟩ := ro.cons_inv
      obtain ⟨wi, vs', fi, f3, e1, e2, ri, b⟩ := b
      subst e1
      obtain ⟨w, rfl, rt⟩ := b.one_inv
      obtain ⟨rfl, ri⟩ := ri
      cases ri
      rw [List.nil_append] at e2
      subst e2
      have ndl : l ∉ gs ++ f2 := by
        have := nd
        rw [List.cons_append, List.nodup_cons] at this
        exact this.1
      have hle : ws.length = us0.length := q.len
      refine mt_insert pins s σ H _ _ v us Q I rx rv ⟨l, ws, i, w, rfl, rfl, hl, by rw [hle]; exact sz_lt hlt.2.2, hlt.1, hlt.2.1, ?_⟩
      have q1 := q.frame (Same.refl G) (H' := upd H l (.lst (ws.take i.toNat ++ [w] ++ ws.drop i.toNat))) fun p hp => upd_ne fun (z : p = l) => ndl (by rw [← z]; simp [hp])
      have rt1 := rt.frame (Same.refl G) (H' := upd H l (.lst (ws.take i.toNat ++ [w] ++ ws.drop i.toNat))) fun p hp => upd_ne fun (z : p = l) => ndl (by rw [← z]; simp [hp])
      rw [← List.take_append_drop i.toNat us0] at q1
      obtain ⟨g1, g2, e1, e2, e3⟩ := q1.split
      have ht : ws.take (us0.take i.toNat).length = ws.take i.toNat := by
        rw [List.length_take, ← hle]
        exact List.take_eq_take_iff.mpr (by omega)
      have hd : ws.drop (us0.take i.toNat).length = ws.drop i.toNat := by
        rw [List.length_take, ← hle]
        rcases Nat.le_total i.toNat ws.length with z | z
        · rw [Nat.min_eq_left z]
        · rw [Nat.min_eq_right z, List.drop_length, List.drop_eq_nil_of_le z]
      rw [ht] at e2
      rw [hd] at e3
      subst e1
      refine rG_end (fr := []) (fo := l :: (g1 ++ (f2 ++ g2))) gh (by simp) fg k (RO.dd rfl) ⟨l, _, g1 ++ (f2 ++ g2), rfl, rfl, ?_, upd_same, ?_⟩ ?_ fun p hp => ?_
      · have := sz_lt hlt.2.2
        simp only [List.length_append, List.length_take, List.length_drop, List.length_cons, List.length_nil]
        omega
      · have z := e2.append ((ROs.one rt1).append e3)
        rw [← List.append_assoc (ws.take i.toNat) [w] (ws.drop i.toNat)] at z
        exact z
      · have hperm : (l :: (g1 ++ (f2 ++ g2))).Perm (l :: (g1 ++ g2) ++ f2) := by
          rw [List.cons_append, List.append_assoc]
          exact List.Perm.cons _ (List.Perm.append_left _ List.perm_append_comm)
        rw [List.nil_append]
        exact hperm.nodup_iff.mpr nd
      · simp only [List.nil_append, List.mem_cons, List.mem_append, List.cons_append] at hp ⊢
        rcases hp with hp | hp | hp | hp <;> simp [hp]
    · cases hm
  · cases hm
theorem pop_mtG : MtG X "list.pop" popG := by
  rintro pins s σ H x vs v us Q I rx rv ⟨G, u, ts, fp, r, u', gh, ro, nd, fg, hm, k⟩
  unfold popG at hm
  split at hm
  · rename_i us0
    obtain ⟨t, et, e⟩ := Option.map_eq_some_iff.mp hm
    cases e
    obtain ⟨f1, f2, rfl, ⟨l, ws, gs, rfl, rfl, sz, hl, q⟩, b⟩ := ro.cons_inv
    obtain ⟨rfl, rfl⟩ := b.nil_inv
    rw [List.append_nil] at nd fg k
    obtain ⟨w, g1, g2, ew, rfl, q1, q2⟩ := q.last et
    obtain ⟨nl, nd2⟩ := List.nodup_cons.mp nd
    refine mt_pop pins s σ H _ _ v us Q I rx rv ⟨l, ws, w, rfl, rfl, hl, by rw [← List.getLast?_eq_getElem?]; exact ew, ?_⟩
    refine rG_end (fr := g2) (fo := l :: g1) gh (by simp) fg k (q2.frame (Same.refl _) fun p hp => upd_ne fun (z : p = l) => nl (by rw [← z]; simp [hp])) ⟨l, _, g1, rfl, rfl, by rw [List.length_dropLast]; omega, upd_same, q1.frame (Same.refl _) fun p hp => upd_ne fun (z : p = l) => nl (by rw [← z]; simp [hp])⟩ ?_ fun p hp => ?_
    · have hperm : (g2 ++ l :: g1).Perm (l :: (g1 ++ g2)) := List.perm_append_comm
      exact hperm.nodup_iff.mpr nd
    · simp only [List.mem_append, List.mem_cons] at hp ⊢
      rcases hp with hp | hp | hp <;> simp [hp]
  · cases hm
theorem popAt_mtG : MtG X "list.pop" popAtG := by
  rintro pins s σ H x vs v us Q I rx rv ⟨G, u, ts, fp, r, u', gh, ro, nd, fg, hm, k⟩
  unfold popAtG at hm
  split at hm
  · rename_i us0 i
    split at hm
    · rename_i hlt
      obtain ⟨j, hj, e⟩ := Option.bind_eq_some_iff.mp hm
      obtain ⟨t, et, e⟩ := Option.map_eq_some_iff.mp e
      cases e
      obtain ⟨f1, f2, rfl, ⟨l, ws, gs, rfl, rfl, sz, hl, q⟩, b⟩ := ro.cons_inv
      obtain ⟨wi, rfl, rfl, ri⟩ := b.one_inv
      cases ri
      rw [List.append_nil] at nd fg k
      obtain ⟨nl, nd2⟩ := List.nodup_cons.mp nd
      have hle : ws.length = us0.length := q.len
      have hjl : j < us0.length := (ixN_seq hj).2.1
      have e0 : us0 = us0.take j ++ ([r] ++ us0.drop (j + 1)) := by
        conv => lhs; rw [← List.take_append_drop j us0, List.drop_eq_getElem_cons hjl]
        rw [List.getElem?_eq_getElem hjl] at et
        rw [Option.some.inj et]; rfl
      have q1 := q
      rw [e0] at q1
      obtain ⟨g1, g23, e1, e2, e3⟩ := q1.split
      obtain ⟨g2, g3, e4, e5, e6⟩ := e3.split
      have hlen : (us0.take j).length = j := by rw [List.length_take]; omega
      rw [hlen] at e2 e5 e6
      rw [List.length_singleton, List.drop_drop] at e6
      rw [List.length_singleton] at e5
      obtain ⟨w, ew, rt⟩ := e5.one_inv
      have hw : ws[j]? = some w := by
        have := congrArg (fun l : List V => l[0]?) ew
        simpa [List.getElem?_take, List.getElem?_drop] using this
      subst e1 e4
      refine mt_popAt pins s σ H _ _ v us Q I rx rv ⟨l, ws, i, j, w, rfl, rfl, hl, hlt.1, hlt.2, by rw [hle]; exact (ixN_seq hj).1, hw, ?_⟩
      have fr : ∀ {p o}, p ∈ g1 ++ (g2 ++ g3) → upd H l o p = H p := fun {p o} hp => upd_ne fun (z : p = l) => nl (z ▸ hp)
      refine rG_end (fr := g2) (fo := l :: (g1 ++ g3)) gh (by simp) fg k (rt.frame (Same.refl _) fun p hp => fr (by simp [hp])) ⟨l, _, g1 ++ g3, rfl, rfl, ?_, upd_same, ?_⟩ ?_ fun p hp => ?_
      · simp only [List.length_append, List.length_take, List.length_drop]; omega
      · rw [List.eraseIdx_eq_take_drop_succ]
        exact (e2.frame (Same.refl _) fun p hp => fr (by simp [hp])).append (e6.frame (Same.refl _) fun p hp => fr (by simp [hp]))
      · have hperm : (g2 ++ l :: (g1 ++ g3)).Perm (l :: (g1 ++ (g2 ++ g3))) := by
          refine List.perm_middle.trans (List.Perm.cons _ ?_)
          rw [← List.append_assoc, ← List.append_assoc]
          exact List.Perm.append_right _ List.perm_append_comm
        exact hperm.nodup_iff.mpr nd
      · simp only [List.mem_append, List.mem_cons] at hp ⊢
        rcases hp with hp | hp | hp | hp <;> simp [hp]
    · cases hm
  · cases hm
theorem mt_dpop1 : MtR X "dict.pop" (fun x vs H Q => ∃ a kvs k v, x = .ref a ∧ vs = [kV k] ∧ H a = some (.dK kvs) ∧ valV kvs k = some v ∧ Q v (upd H a (.dK (dropK kvs k)))) := by
  rintro pins s σ H x vs v us Q I rx rv ⟨a, kvs, k, w, rfl, rfl, ha, hv, q⟩
  cases rx
  obtain ⟨u, rfl, ru⟩ := rv.one
  exact d_pop I ha ru hv (.inl rfl) fun w' s3 I3 rw' => ⟨w, _, I3, rw', q⟩
theorem dpop_mtG : MtG X "dict.pop" dpopG := by
  rintro pins s σ H x vs v us Q I rx rv ⟨G, u, ts, fp, r, u', gh, ro, nd, fg, hm, k⟩
  unfold dpopG at hm
  split at hm
  · rename_i ks us0 d
    obtain ⟨q0, hq, e⟩ := Option.bind_eq_some_iff.mp hm
    obtain ⟨j, hj, e⟩ := Option.bind_eq_some_iff.mp e
    obtain ⟨t, et, e⟩ := Option.map_eq_some_iff.mp e
    cases e
    obtain ⟨f1, f2, rfl, ⟨l, ws, gs, rfl, rfl, hle, hl, q⟩, b⟩ := ro.cons_inv
    obtain ⟨wi, rfl, rfl, ri⟩ := b.one_inv
    rw [List.append_nil] at nd fg k
    obtain ⟨nl, nd2⟩ := List.nodup_cons.mp nd
    have hlw : ks.length = ws.length := by rw [q.len]; exact hle
    obtain ⟨w, fj, fs', b1, b2, b3, b4, b5, b6⟩ := q.kpick hj et
    obtain ⟨w', c1, c2⟩ := keyIx_ok hj hlw
    rw [b1] at c1
    cases c1
    refine mt_dpop1 pins s σ H _ _ v us Q I rx rv ⟨l, _, q0, w, rfl, by rw [keyOf_ok ri hq], hl, c2, ?_⟩
    rw [← keyIx_drop, show (FL.kdrop ks ws q0).1 = (FL.kdrop ks us0 q0).1 from kdrop_fst q.len]
    refine rG_end (fr := fj) (fo := l :: fs') gh (by simp) fg k (b2.frame (Same.refl _) fun p hp => upd_ne fun (z : p = l) => nl (z ▸ b4.subset hp)) ⟨l, _, fs', rfl, rfl, kdrop_len, upd_same, b3.frame (Same.refl _) fun p hp => upd_ne fun (z : p = l) => nl (z ▸ b5.subset hp)⟩ ?_ fun p hp => ?_
    · refine List.nodup_append.mpr ⟨nd2.sublist b4, List.nodup_cons.mpr ⟨fun z => nl (b5.subset z), nd2.sublist b5⟩, fun x hx y hy z => ?_⟩
      rcases List.mem_cons.mp hy with hy | hy
      · exact nl (by rw [← hy, ← z]; exact b4.subset hx)
      · exact b6 x hx nd2 (z ▸ hy)
    · simp only [List.mem_append, List.mem_cons] at hp ⊢
      rcases hp with hp | hp | hp
      · exact .inr (b4.subset hp)
      · exact .inl hp
      · exact .inr (b5.subset hp)
  · cases hm
end
end FL
/-! The functional layer, part PP: stores of owned things, what is told taken apart. -/
namespace FL
open PySem PySem.Spec PyProof.Rows L2
/-- a dict's keys are unlike -/
def rSetN : TSet := fun o i v H Q => ∃ a H', o = .ref a ∧ DPut H a i v H' ∧ ((∀ kvs, H a = some (.dK kvs) → (kvs.map (·.1)).Nodup) → Q H')
theorem set_dictN {X : Cx} (hu : X.A.units + 1 < cLine) : PSet X rSetN := by
  intro pins s σ H o i v ov iv u Q I ro ri rv h
  obtain ⟨a, H', eo, g, q⟩ := h
  refine set_dict hu pins s σ H o i v ov iv u Q I ro ri rv ⟨a, H', eo, g, q fun kvs e => ?_⟩
  obtain ⟨_, _, vs, kv, o', es, ep, d⟩ := dk_of I.hok e
  rw [kv.keys]
  exact d.2.2.2.2.2
theorem ROs.kputG {K : PySem.W.Frag} {mg : Str → Option Value} {G H : Hp} {κ : Type} [DecidableEq κ] {k : κ} {t : OT} {v : V} {fv : List Addr} (h : RO K mg G H t v fv) : ∀ {ks : List κ} {ts : List OT} {vs : List V} {fs : List Addr}, ks.Nodup → ks.length = ts.length → ROs K mg G H ts vs fs → (fs ++ fv).Nodup →
    (FL.kput ks ts k t).1 = (FL.kput ks vs k v).1 ∧ ∃ fs', ROs K mg G H (FL.kput ks ts k t).2 (FL.kput ks vs k v).2 fs' ∧ fs'.Nodup ∧ ∀ x ∈ fs', x ∈ fs ∨ x ∈ fv := by
  intro ks ts vs fs nk hl q nd
  have hn : ∀ (ks : List κ) {ts : List OT} {vs : List V} {fs : List Addr}, k ∉ ks → ks.length = ts.length → ROs K mg G H ts vs fs → ROs K mg G H (List.zipWith (fun q y => if q = k then t else y) ks ts) (List.zipWith (fun q y => if q = k then v else y) ks vs) fs := by
    intro ks
    induction ks with
    | nil =>
      intro ts vs fs _ hl q
      cases ts with
      | nil => obtain ⟨e1, e2⟩ := q; subst e1 e2; exact ⟨rfl, rfl⟩
      | cons _ _ => cases hl
    | cons a ks ih =>
      intro ts vs fs nk hl q
      cases ts with
      | nil => cases hl
      | cons t0 ts =>
        obtain ⟨w, r, f1, f2, e, e2, h', q'⟩ := q
        subst e e2
        rw [List.zipWith_cons_cons, List.zipWith_cons_cons, if_neg fun (z : a = k) => nk (by rw [z]; exact List.mem_cons_self), if_neg fun (z : a = k) => nk (by rw [z]; exact List.mem_cons_self)]
        exact ⟨w, _, f1, f2, rfl, rfl, h', ih (fun z => nk (List.mem_cons_of_mem _ z)) (by simpa using hl) q'⟩
  have hz : ∀ (ks : List κ) {ts : List OT} {vs : List V} {fs : List Addr}, ks.Nodup → k ∈ ks → ks.length = ts.length → ROs K mg G H ts vs fs → (fs ++ fv).Nodup → ∃ fs', ROs K mg G H (List.zipWith (fun q y => if q = k then t else y) ks ts) (List.zipWith (fun q y => if q = k then v else y) ks vs) fs' ∧ fs'.Nodup ∧ ∀ x ∈ fs', x ∈ fs ∨ x ∈ fv := by
    intro ks
    induction ks with
    | nil => intro ts vs fs _ hk; cases hk
    | cons a ks ih =>
      intro ts vs fs nk hk hl q nd
      cases ts with
      | nil => cases hl
      | cons t0 ts =>
        obtain ⟨w, r, f1, f2, e, e2, h', q'⟩ := q
        subst e e2
        obtain ⟨na, nk2⟩ := List.nodup_cons.mp nk
        obtain ⟨nf, nv, d⟩ := List.nodup_append.mp nd
        obtain ⟨n1, n2, d12⟩ := List.nodup_append.mp nf
        rw [List.zipWith_cons_cons, List.zipWith_cons_cons]
        by_cases e : a = k
        · rw [if_pos e, if_pos e]
          refine ⟨fv ++ f2, ⟨v, _, fv, f2, rfl, rfl, h, hn ks (e ▸ na) (by simpa using hl) q'⟩, List.nodup_append.mpr ⟨nv, n2, fun x hx y hy z => d y (List.mem_append_right _ hy) x hx z.symm⟩, fun x hx => ?_⟩
          rcases List.mem_append.mp hx with hx | hx
          · exact .inr hx
          · exact .inl (List.mem_append_right _ hx)
        · rw [if_neg e, if_neg e]
          obtain ⟨fs', a1, a2, a3⟩ := ih nk2 ((List.mem_cons.mp hk).resolve_left fun z => e z.symm) (by simpa using hl) q' (List.nodup_append.mpr ⟨n2, nv, fun x hx y hy z => d x (List.mem_append_right _ hx) y hy z⟩)
          refine ⟨f1 ++ fs', ⟨w, _, f1, fs', rfl, rfl, h', a1⟩, List.nodup_append.mpr ⟨n1, a2, fun x hx y hy z => ?_⟩, fun x hx => ?_⟩
          · rcases a3 y hy with b | b
            · exact d12 x hx y b z
            · exact d x (List.mem_append_left _ hx) y b z
          · rcases List.mem_append.mp hx with hx | hx
            · exact .inl (List.mem_append_left _ hx)
            · rcases a3 x hx with b | b
              · exact .inl (List.mem_append_right _ b)
              · exact .inr b
  unfold FL.kput
  split
  · rename_i hk
    exact ⟨rfl, hz ks nk hk hl q nd⟩
  · exact ⟨rfl, fs ++ fv, ROs.append q (ROs.one h), nd, fun x hx => List.mem_append.mp hx⟩
/-- x[k] = t -/
def putT : OT → D → OT → Option OT
  | .lst us, .int k, t => (ixN us.length k).map fun j => .lst (us.set j t)
  | .dK ks us, k, t => (keyOf k).bind fun q => if ks.length < 16777216 then some (.dK (kput ks us q t).1 (kput ks us q t).2) else none
  | _, _, _ => none
theorem putT_inv {u t u' : OT} {k : D} (h : putT u k t = some u') : (∃ us i j, u = .lst us ∧ k = .int i ∧ ixN us.length i = some j ∧ u' = .lst (us.set j t)) ∨ (∃ ks us q, u = .dK ks us ∧ keyOf k = some q ∧ ks.length < 16777216 ∧ u' = .dK (kput ks us q t).1 (kput ks us q t).2) := by
  cases u with
  | lst us =>
    cases k with
    | int i =>
      obtain ⟨j, hj, rfl⟩ := Option.map_eq_some_iff.mp h
      exact .inl ⟨us, i, j, rfl, rfl, hj, rfl⟩
    | _ => cases h
  | dK ks us =>
    obtain ⟨q0, hq, h⟩ := Option.bind_eq_some_iff.mp (show (keyOf k).bind _ = some u' from h)
    split at h
    · rename_i hl
      cases h
      exact .inr ⟨ks, us, q0, rfl, hq, hl, rfl⟩
    · cases h
  | _ => cases h
def putX (s : Nat) (fp : En → Res (List Nat)) (fi : En → Res D) (fx : En → ResX) (ρ : En) : Flw := bindX (fx ρ) fun t ρ1 => bindF (fp ρ1) ρ1 fun p => match ρ1[s]? with
  | some (some t0) => match t0.sub p with
    | some u => bindF (fi ρ1) ρ1 fun k => match putT u k t with
      | some u' => .nx (ρ1.set s (some (t0.put p u')))
      | none => .bad
    | none => .bad
  | _ => .bad
section
variable {X : Cx} {W : WW} {io : List Nat} {e o ei tg : Expr} {fx : En → ResX} {fi : En → Res D} {fp : En → Res (List Nat)} {pos pos' : Pos} {s : Nat}
theorem S1.putX (s : Nat) (hu : X.A.units + 64 < cLine) (h : EX X W e fx) (hp : EP X W s o fp) (hi : EF X W ei fi)
    (ha : ∀ v, assign (.Subscript o ei pos') X.env v = (do
      let ov ← holding [v] (eval o X.env)
      let iv ← holding [v, ov] (eval ei X.env)
      standAt pos'
      holding [v, ov, iv] (setItem ov iv v)
      release [v, ov, iv] []) := by intro _; rfl)
    (hs : swapsWithSole [.Subscript o ei pos'] e pos.line X.env = pure false := by rfl) (hw : swappedStores [.Subscript o ei pos'] e X.env = pure none := by rfl)
    (h1 : (assignEach [.Subscript o ei pos'] X.env).map (·.2) = [assign (.Subscript o ei pos') X.env] := by rfl) :
    S1 X W io (.Assign [.Subscript o ei pos'] e pos) (putX s fp fi fx) := ⟨fun B hB =>
  PS.mono (ps_asg (h.run B) (pg_sub (hp.run B) (hi.run B) (PSet.or set_list (set_dictN (by omega))) ha) hs hw h1) fun N σ H ⟨G, ρ, r, h⟩ => by
    unfold FL.putX at h
    refine liftX.of (k := fun t ρ1 => bindF (fp ρ1) ρ1 fun p => match ρ1[s]? with
      | some (some t0) => match t0.sub p with
        | some u => bindF (fi ρ1) ρ1 fun k => match putT u k t with
          | some u' => .nx (ρ1.set s (some (t0.put p u')))
          | none => .bad
        | none => .bad
      | _ => .bad) r h fun t ρ1 v G1 H1 rv o1 => ?_
    refine lift.of (rel := relW σ s) (g := fp) rv.rep o1 fun p w G2 H2 r2 s2 q2 o2 => ?_
    split at o2
    · rename_i t0 et
      split at o2
      · rename_i u eu
        refine lift.of (rel := relD X.K X.mg) (g := fi) r2 o2 fun k y G3 H3 r3 s3 q3 o3 => ?_
        obtain ⟨v0, q21, q22⟩ := q2
        have rv3 := (rv.step s2).step s3
        obtain ⟨v0', w', gu, fv, h1, h2, ru, rt, nd, back⟩ := rv3.path et eu
        rw [q21] at h1
        cases h1
        rw [walkV_mono s3.hh q22] at h2
        cases h2
        split at o3
        · rename_i u' eu'
          rcases putT_inv eu' with ⟨us, k, j, rfl, rfl, hj, rfl⟩ | ⟨ks, us, q0, rfl, hq, hl0, rfl⟩
          · skip
            obtain ⟨l, ws, gs, rfl, rfl, sz, hl, q⟩ := ru
            cases q3
            have hjl : j < us.length := (ixN_seq hj).2.1
            obtain ⟨z, f1, fj, f2, hz, rfl, rj, bk⟩ := q.at (List.getElem?_eq_getElem hjl)
            have nl : l ∉ f1 ++ (fj ++ f2) ++ fv := by
              rw [List.cons_append] at nd
              exact (List.nodup_cons.mp nd).1
            have nd2 := (List.nodup_cons.mp (by rw [List.cons_append] at nd; exact nd)).2
            have up : ∀ x, x ∈ f1 ++ (fj ++ f2) ++ fv → upd H3 l (.lst (ws.set j v)) x = H3 x := fun x hx => upd_ne fun (z : x = l) => nl (z ▸ hx)
            refine .inl ⟨l, ws, k, j, rfl, rfl, hl, by rw [q.len]; exact hj, o3 _ _ _ (back l _ _ (l :: (f1 ++ (fv ++ f2))) (by simp) ⟨l, _, _, rfl, rfl, by rw [List.length_set]; exact sz, upd_same, bk G3 _ t v fv (Same.refl _) (fun x hx => up x (by rcases hx with hx | hx <;> simp [hx])) (rt.frame (Same.refl _) fun x hx => up x (by simp [hx]))⟩ ?_ fun x hx => ?_)⟩
            · have hperm : (l :: (f1 ++ (fv ++ f2))).Sublist (l :: (f1 ++ (fv ++ f2))) := List.Sublist.refl _
              refine List.nodup_cons.mpr ⟨fun hx => nl ?_, ?_⟩
              · simp only [List.mem_append] at hx ⊢
                rcases hx with hx | hx | hx <;> simp [hx]
              · obtain ⟨n1, n2, d⟩ := List.nodup_append.mp nd2
                obtain ⟨m1, m2, d2⟩ := List.nodup_append.mp n1
                obtain ⟨m3, m4, d3⟩ := List.nodup_append.mp m2
                refine List.nodup_append.mpr ⟨m1, List.nodup_append.mpr ⟨n2, m4, fun x hx y hy z => d y (by simp [hy]) x hx z.symm⟩, fun x hx y hy z => ?_⟩
                rcases List.mem_append.mp hy with hy | hy
                · exact d x (by simp [hx]) y hy z
                · exact d2 x hx y (by simp [hy]) z
            · simp only [List.mem_append, List.mem_cons] at hx ⊢
              rcases hx with hx | hx | hx | hx <;> simp [hx]
          · skip
            obtain ⟨l, ws, gs, rfl, rfl, hle, hl, q⟩ := ru
            have hlw : ks.length = ws.length := by rw [q.len]; exact hle
            have q3' : R X.K X.mg G3 _ y := q3
            have nl : l ∉ gs ++ fv := by
              rw [List.cons_append] at nd
              exact (List.nodup_cons.mp nd).1
            have nd2 : (gs ++ fv).Nodup := (List.nodup_cons.mp (by rw [List.cons_append] at nd; exact nd)).2
            refine .inr ⟨l, _, rfl, by rw [keyOf_ok q3' hq]; exact DPut.k hl (by rw [List.length_zip, ← hlw, Nat.min_self]; exact sz_lt hl0), fun nk => o3 _ G3 _ ?_⟩
            have nk0 := nk _ hl
            rw [List.map_fst_zip (by rw [hlw]; exact Nat.le_refl _)] at nk0
            rw [kput_zip q0 v hlw]
            have up : ∀ x, x ∈ gs ++ fv → upd H3 l (.dK ((kput ks ws q0 v).1.zip (kput ks ws q0 v).2)) x = H3 x := fun x hx => upd_ne fun (z : x = l) => nl (z ▸ hx)
            obtain ⟨k1, fn, k2, k3, k4⟩ := ROs.kputG (k := q0) (rt.frame (Same.refl G3) (H' := upd H3 l (.dK ((kput ks ws q0 v).1.zip (kput ks ws q0 v).2))) fun x hx => up x (by simp [hx])) nk0 hle (q.frame (Same.refl _) fun x hx => up x (by simp [hx])) nd2
            refine back l _ _ (l :: fn) (by simp) ⟨l, _, fn, rfl, rfl, kput_len hle, by rw [k1]; exact upd_same, k2⟩ (List.nodup_cons.mpr ⟨fun hx => nl ?_, k3⟩) fun x hx => ?_
            · rcases k4 l hx with z | z <;> simp [z]
            · rcases List.mem_cons.mp hx with rfl | hx
              · simp
              · rcases k4 x hx with z | z <;> simp [z]
        · exact o3.elim
      · exact o2.elim
    · exact o2.elim⟩
/-- what is told is taken apart, its parts owned; or read only -/
def unX (g : OT → En → Option En) (f : En → ResX) (ρ : En) : Flw := bindX (f ρ) fun t ρ1 => match g t ρ1 with
  | some ρ' => .nx ρ'
  | none => .bad
theorem S1.unX {vs : List Nat} {g : OT → En → Option En} (h : EX X W e fx) (hg : EGO X vs tg g) (hio : ∀ i ∈ io, i ∉ vs := by decide) (hs : swapsWithSole [tg] e pos.line X.env = pure false := by rfl) (hw : swappedStores [tg] e X.env = pure none := by rfl)
    (h1 : (assignEach [tg] X.env).map (·.2) = [assign tg X.env] := by rfl) : S1 X W io (.Assign [tg] e pos) (FL.unX g fx) := ⟨fun B hB => PS.mono (ps_asg (h.run B) (hg.run B (fun q hq => hio q.1 (by rw [← hB]; exact List.mem_map_of_mem hq))) hs hw h1) fun N σ H ⟨G, ρ, r, h⟩ => by
  unfold FL.unX at h
  refine liftX.of (k := fun t ρ1 => match g t ρ1 with
    | some ρ' => .nx ρ'
    | none => .bad) r h fun t ρ1 v G1 H1 rv o1 => ?_
  cases eg : g t ρ1 with
  | none => rw [eg] at o1; exact o1.elim
  | some ρ' => rw [eg] at o1; exact ⟨G1, ρ1, t, ρ', rv, eg, fun σ' r2 _ => o1 _ _ _ r2⟩⟩
def tgX (g : D → En → Option En) (f : En → ResX) (ρ : En) : Flw := bindX (f ρ) fun t ρ1 => match g (fz t) ρ1 with
  | some ρ' => .nx ρ'
  | none => .bad
theorem S1.tgX {vs : List Nat} {g : D → En → Option En} (h : EX X W e fx) (hg : EG X vs tg g) (hio : ∀ i ∈ io, i ∉ vs := by decide) (hs : swapsWithSole [tg] e pos.line X.env = pure false := by rfl) (hw : swappedStores [tg] e X.env = pure none := by rfl)
    (h1 : (assignEach [tg] X.env).map (·.2) = [assign tg X.env] := by rfl) : S1 X W io (.Assign [tg] e pos) (FL.tgX g fx) := ⟨fun B hB => PS.mono (ps_asg (h.run B) (hg.run B (fun q hq => hio q.1 (by rw [← hB]; exact List.mem_map_of_mem hq))) hs hw h1) fun N σ H ⟨G, ρ, r, h⟩ => by
  unfold FL.tgX at h
  refine liftX.of (k := fun t ρ1 => match g (fz t) ρ1 with
    | some ρ' => .nx ρ'
    | none => .bad) r h fun t ρ1 v G1 H1 rv o1 => ?_
  obtain ⟨G2, _, r2, rt⟩ := rv.frozenG
  cases eg : g (fz t) ρ1 with
  | none => rw [eg] at o1; exact o1.elim
  | some ρ' => rw [eg] at o1; exact ⟨G2, ρ1, fz t, ρ', r2, rt, eg, fun σ' r2 _ => o1 _ _ _ r2⟩⟩
end
end FL
/-! The functional layer, part Pq: what is shown of data. -/
namespace FL
open PySem PySem.Spec PyProof.Rows L2
def reprOk (d : D) : Bool := isDisplay (py d) && (plain 64 d && ((py d).showable && (decide ((py d).shown.length ≤ sizeLine) && PyData.strOk (py d).shown)))
def reprD : List D → Option D
  | [d] => if reprOk d = true then some (.str (py d).shown) else none
  | _ => none
section
variable {X : Cx} {pins : List (Addr × Obj)} {σ : L2.St} {H G : Hp} {s : Shared}
theorem repr_ok (hc : X.calm = true) (hu : X.A.units + 66 < cLine) (hgs : X.A.guards = some []) : CallD X (.builtin "repr") reprD := by
  rintro pins s σ H xs us Q I r ⟨G, ds, t, gh, q, hg, k⟩
  unfold reprD at hg
  split at hg
  · rename_i d
    split at hg
    · rename_i hc
      cases hg
      unfold reprOk at hc
      simp only [Bool.and_eq_true, decide_eq_true_eq] at hc
      obtain ⟨h1, h2, h3, h4, h5⟩ := hc
      obtain ⟨v, rfl, q0⟩ := q.one
      obtain ⟨u, rfl, ru⟩ := vals1 r
      obtain ⟨as, hr⟩ := Dp.reads I _ v u (py_dp gh 64 d v h2 q0) ru
      obtain ⟨a, rfl⟩ := isRef_of_reads hr h1
      have hl := py_lay 64 d v h2 q0
      refine repr_of_reads' hr h3 (PyData.noDict_hsm (PyData.hasDict_of_canLay _ hl.1)) hgs (by omega) (fun _ _ e => e) (fun h' tt tk hk => ?_) h4
      exact ⟨.str (py d).shown, H, I.turnedL (ch := []) (fun b o _ e => hk b o e) (fun b hb => by cases hb), ⟨tt, rfl⟩, k _ _ _ (Stp.refl gh) ⟨rfl, h4, h5⟩⟩
    · cases hg
  · cases hg
end
end FL
/-! The functional layer, part Pr: a dict's keys, walked while the dict is locked. -/
namespace FL
open PySem PySem.Spec PyProof.Rows L2
/-! ### an object taken for another at one place -/
def atD (d : Addr) (x : HO) (A : Hp) : Hp := fun p => if p = d then (A d).map (fun _ => x) else A p
theorem at_ne {d p : Addr} {x : HO} {A : Hp} (h : p ≠ d) : atD d x A p = A p := if_neg h
theorem at_eq {d : Addr} {x : HO} {A : Hp} : atD d x A d = (A d).map (fun _ => x) := if_pos rfl
theorem at_some {d : Addr} {x y : HO} {A : Hp} (h : A d = some y) : atD d x A d = some x := by rw [at_eq, h]; rfl
theorem at_upd {d : Addr} {x y : HO} {A : Hp} (h : A d = some y) : atD d x A = upd A d x := by
  funext p
  by_cases e : p = d
  · subst e; rw [at_some h, upd_same]
  · rw [at_ne e, upd_ne e]
theorem at_back {d : Addr} {x y : HO} {A : Hp} (h : A d = none ∨ A d = some y) : atD d y (atD d x A) = A := by
  funext p
  by_cases e : p = d
  · subst e
    rw [at_eq, at_eq]
    rcases h with h | h <;> rw [h] <;> rfl
  · rw [at_ne e, at_ne e]
theorem at_none {d p : Addr} {x : HO} {A : Hp} : atD d x A p = none ↔ A p = none := by
  by_cases e : p = d
  · subst e; rw [at_eq]; cases A p <;> simp
  · rw [at_ne e]
theorem at_same {d : Addr} {x y : HO} {A C : Hp} (s : Same A C) (h : C d = some y) : Same (atD d x A) (atD d x C) := fun p o e => by
  by_cases q : p = d
  · subst q
    rw [at_eq] at e
    obtain ⟨z, hz, rfl⟩ := Option.map_eq_some_iff.mp e
    rw [at_some (s _ _ hz)]
  · rw [at_ne q] at e ⊢; exact s p o e
/-- the dict u, locked or not -/
def LkOf (kvs : List (Key × V)) (x : HO) : Prop := x = .dK kvs ∨ ∃ o, x = .frz o (.dK kvs)
section
variable {K : PySem.W.Frag} {mg : Str → Option Value} {d : Addr} {x y : HO} {kvs : List (Key × V)} {G H : Hp}
theorem Rd.at_dk (hx : LkOf kvs x) (hy : LkOf kvs y) (hG : G d = some y) {a : Addr} {w : HO} (h : Rd G a w) (hw : ∀ o u, w ≠ .frz o u) : Rd (atD d x G) a w := by
  by_cases e : a = d
  · subst e
    have hw2 : w = .dK kvs := by
      rcases h with h | ⟨o, h⟩
      · rw [hG] at h; cases h
        rcases hy with rfl | ⟨o, rfl⟩
        · rfl
        · exact absurd rfl (hw _ _)
      · rw [hG] at h; cases h
        rcases hy with q | ⟨o, q⟩
        · cases q
        · cases q; rfl
    subst hw2
    rcases hx with rfl | ⟨o, rfl⟩
    · exact .inl (at_some hG)
    · exact .inr ⟨o, at_some hG⟩
  · rcases h with h | ⟨o, h⟩
    · exact .inl (by rw [at_ne e]; exact h)
    · exact .inr ⟨o, by rw [at_ne e]; exact h⟩
theorem at_keep (hy : LkOf kvs y) (hG : G d = some y) {a : Addr} {w : HO} (h : G a = some w) (n1 : ∀ k, w ≠ .dK k) (n2 : ∀ o u, w ≠ .frz o u) : atD d x G a = some w := by
  rw [at_ne (fun e => by
    subst e
    rw [hG] at h; cases h
    rcases hy with rfl | ⟨o, rfl⟩
    · exact n1 _ rfl
    · exact n2 _ _ rfl)]
  exact h
mutual
theorem R.atD (hx : LkOf kvs x) (hy : LkOf kvs y) (hG : G d = some y) : ∀ {e : D} {v : V}, R K mg G e v → R K mg (atD d x G) e v
  | .non, _, h => h
  | .bl _, _, h => h
  | .int _, _, h => h
  | .str _, _, h => h
  | .lst _, _, ⟨a, vs, e, l, h, r⟩ => ⟨a, vs, e, l, at_keep hy hG h (fun _ => nofun) (fun _ _ => nofun), Rs.atD hx hy hG r⟩
  | .tup _, _, ⟨a, vs, e, l, h, r⟩ => ⟨a, vs, e, l, at_keep hy hG h (fun _ => nofun) (fun _ _ => nofun), Rs.atD hx hy hG r⟩
  | .dK _ _, _, ⟨a, vs, e, l, h, r⟩ => ⟨a, vs, e, l, Rd.at_dk hx hy hG h (fun _ _ => nofun), Rs.atD hx hy hG r⟩
  | .dT _ _, _, ⟨a, vs, e, l, h, r⟩ => ⟨a, vs, e, l, Rd.at_dk hx hy hG h (fun _ _ => nofun), Rs.atD hx hy hG r⟩
  | .ins _ _ _, _, ⟨a, ca, dx, vs, e, c, l, h, r⟩ => ⟨a, ca, dx, vs, e, c, l, at_keep hy hG h (fun _ => nofun) (fun _ _ => nofun), Rs.atD hx hy hG r⟩
  | .scr _, _, ⟨a, e, h⟩ => ⟨a, e, by
    rcases h with h | h
    · exact .inl (Rd.at_dk hx hy hG h (fun _ _ => nofun))
    · exact .inr h⟩
  | .exn _, _, h => h
theorem Rs.atD (hx : LkOf kvs x) (hy : LkOf kvs y) (hG : G d = some y) : ∀ {es : List D} {vs : List V}, Rs K mg G es vs → Rs K mg (atD d x G) es vs
  | [], _, h => h
  | _ :: _, _, ⟨v, r, e, h, t⟩ => ⟨v, r, e, R.atD hx hy hG h, Rs.atD hx hy hG t⟩
end
mutual
theorem RO.atD (hx : LkOf kvs x) (hy : LkOf kvs y) (hG : G d = some y) : ∀ {t : OT} {v : V} {fp : List Addr}, (∀ p ∈ fp, p ≠ d) → RO K mg G H t v fp → RO K mg (atD d x G) (atD d x H) t v fp
  | .d _, _, _, _, ⟨e, h⟩ => ⟨e, R.atD hx hy hG h⟩
  | .lst _, _, fp, f, ⟨a, vs, fs, e, e2, l, h, r⟩ => ⟨a, vs, fs, e, e2, l, by rw [at_ne (f a (by rw [e2]; exact List.mem_cons_self))]; exact h, ROs.atD hx hy hG (fun p hp => f p (by rw [e2]; exact List.mem_cons_of_mem _ hp)) r⟩
  | .tup _, _, fp, f, ⟨a, vs, fs, e, e2, l, h, r⟩ => ⟨a, vs, fs, e, e2, l, by rw [at_ne (f a (by rw [e2]; exact List.mem_cons_self))]; exact h, ROs.atD hx hy hG (fun p hp => f p (by rw [e2]; exact List.mem_cons_of_mem _ hp)) r⟩
  | .dK _ _, _, fp, f, ⟨a, vs, fs, e, e2, l, h, r⟩ => ⟨a, vs, fs, e, e2, l, by rw [at_ne (f a (by rw [e2]; exact List.mem_cons_self))]; exact h, ROs.atD hx hy hG (fun p hp => f p (by rw [e2]; exact List.mem_cons_of_mem _ hp)) r⟩
  | .dT _ _, _, fp, f, ⟨a, vs, fs, e, e2, l, h, r⟩ => ⟨a, vs, fs, e, e2, l, by rw [at_ne (f a (by rw [e2]; exact List.mem_cons_self))]; exact h, ROs.atD hx hy hG (fun p hp => f p (by rw [e2]; exact List.mem_cons_of_mem _ hp)) r⟩
  | .ins _ _ _, _, fp, f, ⟨a, ca, dx, vs, fs, e, c, e2, l, h, r⟩ => ⟨a, ca, dx, vs, fs, e, c, e2, l, by rw [at_ne (f a (by rw [e2]; exact List.mem_cons_self))]; exact h, ROs.atD hx hy hG (fun p hp => f p (by rw [e2]; exact List.mem_cons_of_mem _ hp)) r⟩
theorem ROs.atD (hx : LkOf kvs x) (hy : LkOf kvs y) (hG : G d = some y) : ∀ {ts : List OT} {vs : List V} {fp : List Addr}, (∀ p ∈ fp, p ≠ d) → ROs K mg G H ts vs fp → ROs K mg (atD d x G) (atD d x H) ts vs fp
  | [], _, _, _, h => h
  | _ :: _, _, _, f, ⟨v, r, f1, f2, e, e2, h, t⟩ => ⟨v, r, f1, f2, e, e2, RO.atD hx hy hG (fun p hp => f p (by rw [e2]; exact List.mem_append_left _ hp)) h, ROs.atD hx hy hG (fun p hp => f p (by rw [e2]; exact List.mem_append_right _ hp)) t⟩
end
variable {B : Bs} {σ : L2.St} {ρ : En}
def Bs.atD (d : Addr) (x : HO) (B : Bs) : Bs := ⟨FL.atD d x B.O, FL.atD d x B.G0, B.io⟩
theorem Gr.atD (hy : LkOf kvs y) (hG : G d = some y) (r : Gr B G H σ) : Gr (B.atD d x) (atD d x G) (atD d x H) σ := by
  have hH := r.gh _ _ hG
  refine ⟨at_same r.gh hH, at_same r.oh hH, at_same r.g0 hG, fun p h => ?_, r.io⟩
  have h : FL.atD d x B.O p ≠ none := h
  by_cases e : p = d
  · subst e
    rw [Ne, at_none] at h
    show FL.atD p x G p = FL.atD p x B.G0 p
    rw [at_eq, at_eq, r.og p h]
  · show FL.atD d x G p = FL.atD d x B.G0 p
    rw [at_ne e] at h
    rw [at_ne e, at_ne e]; exact r.og p h
theorem Slots.atD {F : Nat → List Addr} (hx : LkOf kvs x) (hy : LkOf kvs y) (hG : G d = some y) (f : Slots K mg B G H σ ρ F) : Slots K mg (B.atD d x) (atD d x G) (atD d x H) σ ρ F :=
  ⟨fun i t e => by
    obtain ⟨v, a, b⟩ := f.rep i t e
    exact ⟨v, a, b.atD hx hy hG fun p hp z => by
      have := (f.at_ i p hp).2.1
      rw [z, hG] at this; cases this⟩, f.nd, fun i p hp => by
    obtain ⟨a, b, c⟩ := f.at_ i p hp
    exact ⟨fun z => a (at_none.mp z), at_none.mpr b, at_none.mpr c⟩, f.dj⟩
theorem Rep.atD (hx : LkOf kvs x) (hy : LkOf kvs y) (hG : G d = some y) (r : Rep K mg B G H σ ρ) : Rep K mg (B.atD d x) (atD d x G) (atD d x H) σ ρ := by
  obtain ⟨F, f⟩ := r.sl
  exact ⟨r.g.atD hy hG, r.len, F, f.atD hx hy hG⟩
theorem RepV.atD {t : OT} {v : V} (hx : LkOf kvs x) (hy : LkOf kvs y) (hG : G d = some y) (r : RepV K mg B G H σ ρ t v) : RepV K mg (B.atD d x) (atD d x G) (atD d x H) σ ρ t v := by
  obtain ⟨F, fv, f, a, b, c, e⟩ := r.sl
  refine ⟨r.g.atD hy hG, r.len, F, fv, f.atD hx hy hG, a.atD hx hy hG (fun p hp z => ?_), b, fun p hp => ?_, e⟩
  · have := (c p hp).2.1
    rw [z, hG] at this; cases this
  · obtain ⟨a, b, c⟩ := c p hp
    exact ⟨fun z => a (at_none.mp z), at_none.mpr b, at_none.mpr c⟩
theorem Bs.at_back (h : B.O d = none ∨ B.O d = some y) (h2 : B.G0 d = none ∨ B.G0 d = some y) : (B.atD d x).atD d y = B := by
  cases B with
  | mk O G0 io =>
    show Bs.mk (FL.atD d y (FL.atD d x O)) (FL.atD d y (FL.atD d x G0)) io = _
    rw [FL.at_back h, FL.at_back h2]
theorem sub_or {A C : Hp} (s : Same A C) (h : C d = some y) : A d = none ∨ A d = some y := by
  cases e : A d with
  | none => exact .inl rfl
  | some z => rw [s _ _ e] at h; exact .inr h
end
/-! ### the kit's walk of keys, the dict locked where it is not -/
section
variable {X : Cx} {tg e : Expr} {td : TE}
def NoFz (X : Cx) (d : Addr) : Prop := ∀ o' u', X.H_0 d ≠ some (.frz o' u')
def iKeysL (X : Cx) (td : TE) : TI := fun σ H R => td σ H fun x H1 => ∃ d kvs, x = .ref d ∧ ((∃ o, H1 d = some (.frz o (.dK kvs)) ∧ R (Itk d o kvs) H1) ∨ (H1 d = some (.dK kvs) ∧ ∀ o, NoFz X d → R (Itk d o kvs) (upd H1 d (.frz o (.dK kvs)))))
theorem pi_keysL (he : PE X e td) : PI X tg e (iKeysL X td) := by
  refine ⟨fun pins s σ H R I h => ?_⟩
  refine thn (he.run pins s σ H _ I h) fun u s1 ⟨x, H1, I1, rx, d, kvs, ex, q⟩ => ?_
  subst ex
  obtain rfl : u = Value.ref d := rx
  rcases q with ⟨o, hd, q⟩ | ⟨hd, q⟩
  · obtain ⟨hs, hgd, hx, es, ep, vs, hdt, hsz, kv, hm⟩ := I1.frzK hd
    refine iter_keys hs hgd hx hdt (pi_one (tk := s1.toks) I1 _ (turn_keys _ hdt) ⟨_, Heap.get?_push_size _ rfl, rfl, ?_⟩ q)
    rw [hsz] <;> rfl
  · have nz := I1.nofrz hd trivial
    obtain ⟨o, I2⟩ := I1.lock hd trivial
    have hd2 : upd H1 d (.frz o (.dK kvs)) d = some (.frz o (.dK kvs)) := upd_same
    obtain ⟨hs, hgd, hx, es, ep, vs, hdt, hsz, kv, hm⟩ := I2.frzK hd2
    refine iter_keys hs hgd hx hdt (pi_one (tk := s1.toks) I2 _ (turn_keys _ hdt) ⟨_, Heap.get?_push_size _ rfl, rfl, ?_⟩ (q o nz))
    rw [hsz] <;> rfl
/-- as it is, or with one dict unlocked -/
def unl (X : Cx) (P : Hp → Prop) (H : Hp) : Prop := P H ∨ ∃ d o kvs, H d = some (.frz o (.dK kvs)) ∧ NoFz X d ∧ P (upd H d (.dK kvs))
def unlD (X : Cx) (D : Ends) : Ends := ⟨fun σ => unl X (D.nx σ), fun v => unl X (D.rt v), fun σ => unl X (D.bk σ), fun σ => unl X (D.ct σ)⟩
theorem unl.inv {pins : List (Addr × Obj)} {σ : L2.St} {H : Hp} {s : Shared} {P : Hp → Prop} (I : Inv X pins σ H s) (h : unl X P H) : ∃ H', Inv X pins σ H' s ∧ P H' := by
  rcases h with h | ⟨d, o, kvs, h1, h2, h3⟩
  · exact ⟨H, I, h⟩
  · exact ⟨_, I.unlock h1 h2, h3⟩
theorem PS.unl {st : Stmt} {t : TS} (h : PS X st t) : PS X st (fun D σ H => t (unlD X D) σ H) := by
  refine ⟨fun pins s σ H D I hw => ?_⟩
  refine thn (h.run pins s σ _ _ I hw) fun f s1 q => ?_
  cases f with
  | next => obtain ⟨σ', H', I2, q⟩ := q; obtain ⟨H2, I3, q⟩ := unl.inv I2 q; exact ⟨σ', _, I3, q⟩
  | brk => obtain ⟨σ', H', I2, q⟩ := q; obtain ⟨H2, I3, q⟩ := unl.inv I2 q; exact ⟨σ', _, I3, q⟩
  | cont => obtain ⟨σ', H', I2, q⟩ := q; obtain ⟨H2, I3, q⟩ := unl.inv I2 q; exact ⟨σ', _, I3, q⟩
  | ret v => obtain ⟨x, σ', H', I2, r, q⟩ := q; obtain ⟨H2, I3, q⟩ := unl.inv I2 q; exact ⟨x, σ', _, I3, r, q⟩
theorem PE.unl {t : TE} (h : PE X e t) : PE X e (fun σ H Q => t σ H fun v => FL.unl X (Q v)) := by
  refine ⟨fun pins s σ H Q I hw => ?_⟩
  refine thn (h.run pins s σ _ _ I hw) fun v s1 ⟨x, H1, I2, r, q⟩ => ?_
  obtain ⟨H2, I3, q⟩ := FL.unl.inv I2 q
  exact ⟨x, _, I3, r, q⟩
end
end FL
/-! The functional layer, part Ps: loops and comprehensions over a dict's keys. -/
namespace FL
open PySem PySem.Spec PyProof.Rows L2
def kD : Key → D
  | .inl i => .int i
  | .inr z => .str z
def okK : Key → Bool
  | .inl _ => true
  | .inr z => okS z
def itK : D → Option (List D)
  | .dK ks _ => if (decide (ks.length ≤ 16777216) && ks.all okK) = true then some (ks.map kD) else none
  | _ => none
def noX : Flw → Flw
  | .ex _ _ => .bad
  | r => r
def forKF (f : En → Res D) (g : D → En → Option En) (body : En → Flw) (ρ : En) : Flw := bindF (it1 itK f ρ) ρ fun xs => noX (forL g body xs ρ)
theorem R_key {K : PySem.W.Frag} {mg : Str → Option Value} {G : Hp} {k : Key} (h : okK k = true) : R K mg G (kD k) (kV k) := by
  cases k with
  | inl i => rfl
  | inr z =>
    unfold okK okS at h
    rw [Bool.and_eq_true, decide_eq_true_eq] at h
    exact ⟨rfl, sz_le h.1, h.2⟩
theorem walks_keys {K : PySem.W.Frag} {mg : Str → Option Value} {G1 : Hp} {d : Addr} {o : Obj} {ks : List Key} {vs : List V} (hl : ks.length = vs.length) (ok : ks.all okK = true) (hG : G1 d = some (.frz o (.dK (ks.zip vs)))) : Walks K mg (Itk d o (ks.zip vs)) G1 (ks.map kD) := fun i G H g gh => by
  have hd := gh _ _ (g _ _ hG)
  have hz : (ks.zip vs).length = ks.length := by rw [List.length_zip]; omega
  refine ⟨fun h => ⟨hd, by rw [hz]; rw [List.length_map] at h; exact h⟩, fun e he => ?_⟩
  rw [List.getElem?_map] at he
  obtain ⟨key, hk, rfl⟩ := Option.map_eq_some_iff.mp he
  have hi := (List.getElem?_eq_some_iff.mp hk).1
  refine ⟨⟨hd, by rw [hz]; exact hi⟩, fun x H' ⟨e1, k', v, e2, e3⟩ => ?_⟩
  subst e1
  rw [List.getElem?_zip_eq_some] at e2
  obtain ⟨e4, e5⟩ := e2
  have e4 := hk.symm.trans e4
  cases e4
  rw [e3]
  exact ⟨G, Stp.refl gh, R_key (List.all_eq_true.mp ok _ (List.mem_of_getElem? hk))⟩
section
variable {X : Cx} {W : WW} {io : List Nat} {B : Bs} {N : Ends} {G H G1 H1 : Hp} {σ : L2.St} {ρ : En} {F : En → Flw} {f : En → Res D} {e : Expr} {pos : Pos}
theorem EG.any {vs : List Nat} {tg : Expr} {g : D → En → Option En} (h : EG X vs tg g) : PG X tg fun v σ H Q => ∃ B : Bs, (∀ q ∈ B.io, q.1 ∉ vs) ∧ ∃ G ρ d ρ', Rep X.K X.mg B G H σ ρ ∧ R X.K X.mg G d v ∧ g d ρ = some ρ' ∧ ∀ σ', Rep X.K X.mg B G H σ' ρ' → wipe σ' vs = wipe σ vs → Q σ' H :=
  ⟨fun pins s σ H v u Q I r ⟨B, hB, q⟩ => (h.run B hB).run pins s σ H v u Q I r q⟩
/-- the loop, once what is walked is known -/
theorem for_go {vs : List Nat} {g : D → En → Option En} {ds : List D} {J : It} (hio : ∀ q ∈ B.io, q.1 ∉ vs) (r1 : Rep X.K X.mg B G1 H1 σ ρ) (walks : Walks X.K X.mg J G1 ds) (o : Out X W B N (noX (forL g F ds ρ))) :
    ∃ Wf : Nat → Nat → L2.St → Hp → Prop, (∃ m, Wf 0 m σ H1) ∧ ∀ i m σ H, Wf i m σ H → (J.stop i H ∧ N.nx σ H) ∨ (J.go i H ∧ ∃ N' : L2.St → Hp → Prop, (∀ σ' H', N' σ' H' → ∃ m', m' < m ∧ Wf (i + 1) m' σ' H') ∧ ∀ x H', J.yld i H x H' →
      ∃ B' : Bs, (∀ q ∈ B'.io, q.1 ∉ vs) ∧ ∃ G ρ d ρ', Rep X.K X.mg B' G H' σ ρ ∧ R X.K X.mg G d x ∧ g d ρ = some ρ' ∧ ∀ σ', Rep X.K X.mg B' G H' σ' ρ' → wipe σ' vs = wipe σ vs → ∃ B2 : Bs, B2.io.map (·.1) = B.io.map (·.1) ∧ lS X W B2 F { N with nx := N', ct := N', bk := N.nx } σ' H') := by
  refine ⟨fun i m σ H => m = ds.length - i ∧ i ≤ ds.length ∧ ∃ G ρ, Rep X.K X.mg B G H σ ρ ∧ Same G1 G ∧ Out X W B N (noX (forL g F (ds.drop i) ρ)), ⟨ds.length, by omega, Nat.zero_le _, G1, ρ, r1, Same.refl _, o⟩, ?_⟩
  rintro i m σ2 H2 ⟨rfl, hi, G2, ρ2, r2, g12, o2⟩
  have og : ∀ p, B.O p ≠ none → G1 p = B.G0 p := r1.g.og
  by_cases hlt : i < ds.length
  · obtain ⟨go, yl⟩ := (walks i G2 H2 g12 r2.gh).2 ds[i] (List.getElem?_eq_getElem hlt)
    refine .inr ⟨go, fun σ' H' => i + 1 ≤ ds.length ∧ ∃ G ρ, Rep X.K X.mg B G H' σ' ρ ∧ Same G1 G ∧ Out X W B N (noX (forL g F (ds.drop (i + 1)) ρ)), fun σ' H' n => ⟨ds.length - (i + 1), by omega, rfl, n⟩, fun x H' y => ?_⟩
    obtain ⟨G3, s3, rx⟩ := yl x H' y
    rw [List.drop_eq_getElem_cons hlt] at o2
    unfold forL at o2
    cases eg : g ds[i] ρ2 with
    | none => rw [eg] at o2; exact o2.elim
    | some ρ3 =>
      rw [eg] at o2
      dsimp only at o2
      have r3 := r2.step s3
      have g13 := g12.trans s3.gg
      refine ⟨B, hio, G3, ρ2, ds[i], ρ3, r3, rx, eg, fun σ' r' _ => ⟨⟨B.O, G1, B.io⟩, rfl, G3, ρ3, r'.unbase g13 (fun p hp => (r3.g.og p hp).trans (og p hp).symm), ?_⟩⟩
      cases ef : F ρ3 with
      | nx ρ4 =>
        rw [ef] at o2
        exact fun σ G H r => ⟨hlt, G, ρ4, r.base r1.g.g0 og, r.g.g0, o2⟩
      | ct ρ4 =>
        rw [ef] at o2
        exact fun σ G H r => ⟨hlt, G, ρ4, r.base r1.g.g0 og, r.g.g0, o2⟩
      | bk ρ4 =>
        rw [ef] at o2
        exact fun σ G H r => o2 σ G H (r.base r1.g.g0 og)
      | rt t ρ4 =>
        rw [ef] at o2
        exact fun v σ G H r => o2 v σ G H (r.base r1.g.g0 og)
      | ex c ρ4 => rw [ef] at o2; exact o2.elim
      | bad => rw [ef] at o2; exact o2.elim
  · rw [List.drop_of_length_le (by omega)] at o2
    exact .inl ⟨(walks i G2 H2 g12 r2.gh).1 (by omega), o2 _ _ _ r2⟩
/-- ends told of a locked dict are told of the dict unlocked -/
theorem Out.unl {d : Addr} {o : Obj} {kvs : List (Key × V)} {r : Flw} (hG : G1 d = some (.dK kvs)) (g0 : Same B.G0 G1) (og : ∀ p, B.O p ≠ none → G1 p = B.G0 p) (hO : B.O d = none ∨ B.O d = some (.dK kvs)) (nz : NoFz X d) (h : Out X W B N (noX r)) : Out X W (Bs.atD d (.frz o (.dK kvs)) ⟨B.O, G1, B.io⟩) (unlD X N) (noX r) := by
  have hx : LkOf kvs (.dK kvs) := .inl rfl
  have hy : LkOf kvs (.frz o (.dK kvs)) := .inr ⟨o, rfl⟩
  have back : (Bs.atD d (.frz o (.dK kvs)) ⟨B.O, G1, B.io⟩).atD d (.dK kvs) = ⟨B.O, G1, B.io⟩ := Bs.at_back hO (.inr hG)
  have at1 : ∀ {G H : Hp} {σ : L2.St}, Gr (Bs.atD d (.frz o (.dK kvs)) ⟨B.O, G1, B.io⟩) G H σ → G d = some (.frz o (.dK kvs)) := fun g => g.g0 _ _ (at_some hG)
  cases r with
  | nx ρ =>
    intro σ G H r
    have hg := at1 r.g
    have r2 := r.atD hx hy hg
    rw [back] at r2
    refine .inr ⟨d, o, kvs, r.gh _ _ hg, nz, ?_⟩
    rw [← at_upd (r.gh _ _ hg)]
    exact h _ _ _ (r2.base g0 og)
  | bk ρ =>
    intro σ G H r
    have hg := at1 r.g
    have r2 := r.atD hx hy hg
    rw [back] at r2
    refine .inr ⟨d, o, kvs, r.gh _ _ hg, nz, ?_⟩
    rw [← at_upd (r.gh _ _ hg)]
    exact h _ _ _ (r2.base g0 og)
  | ct ρ =>
    intro σ G H r
    have hg := at1 r.g
    have r2 := r.atD hx hy hg
    rw [back] at r2
    refine .inr ⟨d, o, kvs, r.gh _ _ hg, nz, ?_⟩
    rw [← at_upd (r.gh _ _ hg)]
    exact h _ _ _ (r2.base g0 og)
  | rt t ρ =>
    intro v σ G H r
    have hg := at1 r.g
    have r2 := r.atD hx hy hg
    rw [back] at r2
    refine .inr ⟨d, o, kvs, r.g.gh _ _ hg, nz, ?_⟩
    rw [← at_upd (r.g.gh _ _ hg)]
    exact h _ _ _ _ (r2.base g0 og)
  | ex c ρ => exact h
  | bad => exact h
theorem Out.left {r : Flw} (h : Out X W B N (noX r)) : Out X W B (unlD X N) (noX r) := by
  cases r with
  | nx ρ => exact fun σ G H r => .inl (h _ _ _ r)
  | bk ρ => exact fun σ G H r => .inl (h _ _ _ r)
  | ct ρ => exact fun σ G H r => .inl (h _ _ _ r)
  | rt t ρ => exact fun v σ G H r => .inl (h _ _ _ _ r)
  | ex c ρ => exact h
  | bad => exact h
theorem SS.any2 {body : List Stmt} (n : List Nat) (h : SS X W n body F) : PSs X body (fun N σ H => ∃ B2 : Bs, B2.io.map (·.1) = n ∧ lS X W B2 F N σ H) := ⟨fun pins s σ H N I ⟨B, hB, q⟩ => (h.run B hB).run pins s σ H N I q⟩
theorem bind_it {β : Type} {g : D → Option β} {k : β → Flw} : bindF ((f ρ).bind fun d => ofO (g d)) ρ k = bindF (f ρ) ρ fun d => bindF (ofO (g d)) ρ k := by
  cases f ρ <;> rfl
theorem S1.forK {tg iter : Expr} {body : List Stmt} {vs : List Nat} {g : D → En → Option En} (hp : PassesOwn (model X.prog X.w) X.A X.env X.xe) (hc : X.calm = true) (hi : EF X W iter f) (hg : EG X vs tg g) (hb : SS X W io body F) (hio : ∀ i ∈ io, i ∉ vs := by decide)
    (hs : ∀ x, foldedSetIterable iter X.env x = pure x := by intro _; rfl) : S1 X W io (.For tg iter body [] pos) (forKF f g F) := ⟨fun B hB => PS.mono (PS.unl (ps_for hp hc (pi_keysL (hi.run B)) hg.any (hb.any2 io) hs)) fun N σ H ⟨G, ρ, r, h⟩ => by
  have hio2 : ∀ q ∈ B.io, q.1 ∉ vs := fun q hq => hio q.1 (by rw [← hB]; exact List.mem_map_of_mem hq)
  unfold forKF it1 at h
  rw [bind_it] at h
  refine lift.of (g := f) r h fun a v G1 H1 r1 s1 q o => ?_
  cases a <;> first | exact o.elim | skip
  rename_i ks ds
  unfold itK at o
  dsimp only at o
  split at o
  · rename_i ok
    rw [Bool.and_eq_true, decide_eq_true_eq] at ok
    obtain ⟨d, vs', rfl, hl, rd, rs⟩ := q
    have hl2 : ks.length = vs'.length := by rw [rs.len]; exact hl
    refine ⟨d, ks.zip vs', rfl, ?_⟩
    rcases rd with rd | ⟨ob, rd⟩
    · refine .inr ⟨r1.gh _ _ rd, fun ob nz => ?_⟩
      have r2 := (r1.unbase (Same.refl G1) (fun _ _ => rfl)).atD (x := .frz ob (.dK (ks.zip vs'))) (.inr ⟨ob, rfl⟩) (.inl rfl) rd
      rw [← at_upd (r1.gh _ _ rd)]
      have := for_go (W := W) (B := Bs.atD d (.frz ob (.dK (ks.zip vs'))) ⟨B.O, G1, B.io⟩) (N := unlD X N) (F := F) (g := g) hio2 r2 (walks_keys hl2 ok.2 (at_some rd)) (Out.unl rd r1.g.g0 r1.g.og (sub_or r1.g.oh (r1.gh _ _ rd)) nz o)
      have e : (Bs.atD d (.frz ob (.dK (ks.zip vs'))) ⟨B.O, G1, B.io⟩).io.map (·.1) = io := hB
      rw [e] at this
      exact this
    · refine .inl ⟨ob, r1.gh _ _ rd, ?_⟩
      have := for_go (W := W) (N := unlD X N) (F := F) (g := g) hio2 r1 (walks_keys hl2 ok.2 rd) o.left
      rw [hB] at this
      exact this
  · exact o.elim⟩
/-! ### comprehensions -/
theorem Stp.unlk {G1 H1 G' H' : Hp} {d : Addr} {x y : HO} (g1 : Same G1 H1) (hG : G1 d = some y) (s : Stp (atD d x G1) (atD d x H1) G' H') : Stp G1 H1 (atD d y G') (atD d y H') := by
  have hH := g1 _ _ hG
  have hG' : G' d = some x := s.gg _ _ (at_some hG)
  have hH' : H' d = some x := s.gh _ _ hG'
  refine ⟨?_, ?_, at_same s.gh hH', fun p hp => ?_⟩
  · have := at_same (x := y) s.hh hH'
    rw [at_back (.inr hH)] at this
    exact this
  · have := at_same (x := y) s.gg hG'
    rw [at_back (.inr hG)] at this
    exact this
  · by_cases e : p = d
    · subst e; rw [at_some hG', hG]
    · have := s.old p (by rw [at_ne e]; exact hp)
      rw [at_ne e] at this ⊢
      exact this
theorem relO.unlk {K : PySem.W.Frag} {mg : Str → Option Value} {G1 H1 G' H' : Hp} {d : Addr} {x y : HO} {kvs : List (Key × V)} {t : OT} {v : V} (hx : LkOf kvs x) (hy : LkOf kvs y) (hG : G1 d = some y) (g1 : Same G1 H1) (s : Stp (atD d x G1) (atD d x H1) G' H') (h : relO K mg (atD d x H1) G' H' t v) : relO K mg H1 (atD d y G') (atD d y H') t v := by
  obtain ⟨fp, ro, nd, fr⟩ := h
  have hG' : G' d = some x := s.gg _ _ (at_some hG)
  refine ⟨fp, ro.atD hy hx hG' fun p hp z => ?_, nd, fun p hp => ⟨at_none.mp (fr p hp).1, at_none.mpr (fr p hp).2⟩⟩
  have := (fr p hp).2
  rw [z, hG'] at this; cases this
variable {elt tg iter : Expr} {ifs : List Expr} {scope : Scope} {own : List (Str × Nat)} {g : D → En → Option En} {tt : En → Res Bool} {fe : En → Res OT}
theorem lcK_next {vs : List Nat} {Q : VK} (h : lift X W (relO X.K X.mg) B (lcD vs (it1 itK f) g tt fe) σ H Q) :
    tLc (iKeysL X (lift X W (relD X.K X.mg) B f)) (fun v σ H Q => ∃ G ρ d ρ', Rep X.K X.mg B0 G H σ ρ ∧ R X.K X.mg G d v ∧ g d ρ = some ρ' ∧ ∀ σ', Rep X.K X.mg B0 G H σ' ρ' → wipe σ' vs = wipe σ vs → Q σ' H)
      (lift X W0 relB B0 tt) (lift X W0 (relO X.K X.mg) B0 fe) vs σ H (fun v => unl X (Q v)) := by
  obtain ⟨G, ρ, r, h⟩ := h
  have h2 : Wr X.K X.mg (relO X.K X.mg) W σ G H ((f ρ).bind fun a => (ofO (itK a)).bind fun xs => ofO ((lcL g tt fe (wipeE ρ vs) xs).map .lst)) fun _ v _ H' => Q v H' := by
    have e : lcD vs (it1 itK f) g tt fe ρ = (f ρ).bind fun a => (ofO (itK a)).bind fun xs => ofO ((lcL g tt fe (wipeE ρ vs) xs).map .lst) := by
      unfold lcD it1
      cases f ρ <;> rfl
    rw [← e]; exact h
  refine lift.next (rel := relD X.K X.mg) (g := fun a ρ => (ofO (itK a)).bind fun xs => ofO ((lcL g tt fe (wipeE ρ vs) xs).map .lst)) later_O r h2 fun a v G1 H1 r1 s1 q w => ?_
  cases a <;> first | exact w.elim | skip
  rename_i ks ds
  unfold itK at w
  dsimp only at w
  split at w
  · rename_i ok
    rw [Bool.and_eq_true, decide_eq_true_eq] at ok
    obtain ⟨d, vs', rfl, hl, rd, rs⟩ := q
    have hl2 : ks.length = vs'.length := by rw [rs.len]; exact hl
    have hn : (ks.map kD).length ≤ sizeLine := by rw [List.length_map]; exact sz_le ok.1
    refine ⟨d, ks.zip vs', rfl, ?_⟩
    rcases rd with rd | ⟨ob, rd⟩
    · refine .inr ⟨r1.gh _ _ rd, fun ob nz => ?_⟩
      have hH := r1.gh _ _ rd
      have r2 := r1.atD (x := .frz ob (.dK (ks.zip vs'))) (.inr ⟨ob, rfl⟩) (.inl rfl) rd
      rw [← at_upd hH]
      refine lc_go (W := W) (Q := fun v => unl X (Q v)) (g := g) (tt := tt) (fe := fe) (vs := vs) r2 hn (walks_keys hl2 ok.2 (at_some rd)) ?_
      rw [ofO_some, Res.bind_ok] at w
      cases el : lcL g tt fe (wipeE ρ vs) (ks.map kD) with
      | none => rw [el] at w; exact w.elim
      | some all =>
        rw [el] at w
        intro v G' H' s' q'
        have hG' := s'.gg _ _ (at_some rd)
        refine .inr ⟨d, ob, _, s'.gh _ _ hG', nz, ?_⟩
        rw [← at_upd (s'.gh _ _ hG')]
        exact w v _ _ (Stp.unlk r1.gh rd s') (relO.unlk (.inr ⟨ob, rfl⟩) (.inl rfl) rd r1.gh s' q')
    · refine .inl ⟨ob, r1.gh _ _ rd, ?_⟩
      exact lc_go (W := W) (Q := fun v => unl X (Q v)) (g := g) (tt := tt) (fe := fe) (vs := vs) r1 hn (walks_keys hl2 ok.2 rd) (Wr.mono w fun a b G' H' q => Or.inl q)
  · exact w.elim
theorem EO.lcK (hc : X.calm = true) (hN : X.N.Nodup) (hi : EF X W iter f) (ok : BlkOk X.N X.env.scope scope own)
    (hg : ∀ (s : Shared) (H : Hp) (C : Addr) (cl : List (Str × Addr)) (fp : List Addr), EG (X.blk s H scope (compEnvC scope cl C X.env) fp) (own.map (·.2)) tg g)
    (ht : ∀ (s : Shared) (H : Hp) (C : Addr) (cl : List (Str × Addr)) (fp : List Addr), ETs (X.blk s H scope (compEnvC scope cl C X.env) fp) W0 ifs tt)
    (he : ∀ (s : Shared) (H : Hp) (C : Addr) (cl : List (Str × Addr)) (fp : List Addr), EO (X.blk s H scope (compEnvC scope cl C X.env) fp) W0 elt fe) (hs : ∀ x, foldedSetIterable iter X.env x = pure x := by intro _; rfl) :
    EO X W (.ListComp elt [⟨tg, iter, ifs, 0⟩] scope pos) (lcD (own.map (·.2)) (it1 itK f) g tt fe) := ⟨fun B =>
  PE.mono (PE.unl (pe_lc hc hN (pi_keysL (hi.run B)) ok (fun s H C cl fp => (hg s H C cl fp).run B0 (fun q h => by cases h)) (fun s H C cl fp => (ht s H C cl fp).run B0) (fun s H C cl fp => (he s H C cl fp).run B0) hs)) fun σ H Q h => lcK_next h⟩
theorem S1.lcK (i : Nat) {y : Str} {py spos : Pos} (hc : X.calm = true) (hN : X.N.Nodup) (hi : EF X W iter f) (ok : BlkOk X.N X.env.scope scope own)
    (hg : ∀ (s : Shared) (H : Hp) (C : Addr) (cl : List (Str × Addr)) (fp : List Addr), EG (X.blk s H scope (compEnvC scope cl C X.env) fp) (own.map (·.2)) tg g)
    (ht : ∀ (s : Shared) (H : Hp) (C : Addr) (cl : List (Str × Addr)) (fp : List Addr), ETs (X.blk s H scope (compEnvC scope cl C X.env) fp) W0 ifs tt)
    (he : ∀ (s : Shared) (H : Hp) (C : Addr) (cl : List (Str × Addr)) (fp : List Addr), EO (X.blk s H scope (compEnvC scope cl C X.env) fp) W0 elt fe)
    (hsw : swapsWith (.ListComp elt [⟨tg, iter, ifs, 0⟩] scope pos) (some (.Name y py)) spos.line X.env = pure true) (hio : i ∉ io := by decide) (hy : X.N[i]? = some y := by rfl) (hyl : X.env.scope.names.lookup y = some .local := by rfl) (hs : ∀ x, foldedSetIterable iter X.env x = pure x := by intro _; rfl) :
    S1 X W io (.Assign [.Name y py] (.ListComp elt [⟨tg, iter, ifs, 0⟩] scope pos) spos) (FL.asgO i (lcD (own.map (·.2)) (it1 itK f) g tt fe)) := ⟨fun B hB =>
  PS.mono (PS.unl (ps_setLc hc hN hy hyl hsw (pi_keysL (hi.run B)) ok (fun s H C cl fp => (hg s H C cl fp).run B0 (fun q h => by cases h)) (fun s H C cl fp => (ht s H C cl fp).run B0) (fun s H C cl fp => (he s H C cl fp).run B0) hs)) fun N σ H ⟨G, ρ, r, h⟩ =>
    lcK_next (Q := fun v H' => N.nx (σ.set i (some v)) H') (lift.of r h fun a b G' H' r' s ⟨fp, q1, q2, q3⟩ o => o _ _ _ ((r.fresh s q1 q2 q3).set (io_ne hB hio)))⟩
end
end FL
/-! The functional layer, part Pt: == over dicts, a dict's keys listed. -/
namespace FL
open PySem PySem.Spec PyProof.Rows L2
def zipB (f : D → D → Option Bool) : List D → List D → Option Bool
  | [], [] => some true
  | x :: xs, y :: ys => (f x y).bind fun b => (zipB f xs ys).map fun c => b && c
  | _, _ => none
def keyB (f : D → D → Option Bool) (ls : List Key) (ys : List D) : List Key → List D → Option Bool
  | [], [] => some true
  | k :: ks, x :: xs => match look ls ys k with
    | some y => (f x y).bind fun b => (keyB f ls ys ks xs).map fun c => b && c
    | none => (keyB f ls ys ks xs).map fun _ => false
  | _, _ => none
def deq : Nat → D → D → Option Bool
  | 0, x, y => if (plain 60 x && plain 60 y) = true then some (eqv x y) else none
  | n + 1, x, y => if (plain 60 x && plain 60 y) = true then some (eqv x y) else match x, y with
    | .lst xs, .lst ys => if xs.length = ys.length then zipB (deq n) xs ys else some false
    | .tup xs, .tup ys => if xs.length = ys.length then zipB (deq n) xs ys else none
    | .dK ks xs, .dK ls ys => (keyB (deq n) ls ys ks xs).map fun b => (ks.length == ls.length) && b
    | _, _ => none
section
variable {X : Cx} {pins : List (Addr × Obj)} {σ : L2.St} {H G : Hp} {s : Shared}
theorem plain_same (I : Inv X pins σ H s) (gh : Same G H) {x y : D} {v : V} {u : Value} (rx : R X.K X.mg G x v) (ry : R X.K X.mg G y v) (ru : RelV v u) (p : plain 60 x = true) (q : plain 60 y = true) : eqv x y = true := by
  obtain ⟨as, h1⟩ := Dp.reads I _ v u (py_dp gh 60 x v p rx) ru
  obtain ⟨bs, h2⟩ := Dp.reads I _ v u (py_dp gh 60 y v q ry) ru
  have l := (py_lay 60 x v p rx).1
  rw [← eqv_py 60 x y p q, ← SeqAt.Reads.unique _ _ _ _ _ l h1 h2]
  exact SeqAt.eqv_refl _ l
theorem zipB_same (I : Inv X pins σ H s) {f : D → D → Option Bool} (hf : ∀ x y v u b, R X.K X.mg G x v → R X.K X.mg G y v → RelV v u → f x y = some b → b = true) : ∀ {xs ys : List D} {vs : List V} {us : List Value} {b : Bool}, Rs X.K X.mg G xs vs → Rs X.K X.mg G ys vs → Vals vs us → zipB f xs ys = some b → b = true
  | [], [], _, _, b, _, _, _, h => by cases h; rfl
  | [], y :: ys, _, _, b, _, _, _, h => by cases h
  | x :: xs, [], _, _, b, _, _, _, h => by cases h
  | x :: xs, y :: ys, _, _, b, ⟨v, r, e, h1, t1⟩, ⟨v2, r2, e2, h2, t2⟩, ru, h => by
    subst e
    cases e2
    cases ru with
    | cons r1 r2 =>
      unfold zipB at h
      obtain ⟨c, hc, h⟩ := Option.bind_eq_some_iff.mp h
      obtain ⟨d, hd, rfl⟩ := Option.map_eq_some_iff.mp h
      rw [hf _ _ _ _ _ h1 h2 r1 hc, zipB_same I hf t1 t2 r2 hd]; rfl
theorem look_mem {α : Type} : ∀ {ks : List Key} {xs : List α} {k : Key} {x : α} {i : Nat}, ks.Nodup → ks[i]? = some k → xs[i]? = some x → look ks xs k = some x
  | [], _, _, _, _, _, h, _ => by simp at h
  | q :: ks, [], _, _, i, _, _, h => by simp at h
  | q :: ks, y :: xs, k, x, 0, _, h, h2 => by
    simp at h h2
    subst h h2
    unfold look
    rw [if_pos rfl]
  | q :: ks, y :: xs, k, x, i + 1, nd, h, h2 => by
    simp at h h2
    unfold look
    rw [if_neg (fun e => (List.nodup_cons.mp nd).1 (by rw [e]; exact List.mem_of_getElem? h))]
    exact look_mem (List.nodup_cons.mp nd).2 h h2
theorem keyB_at {f : D → D → Option Bool} {ls : List Key} {ys : List D} : ∀ {ks : List Key} {xs : List D} {b : Bool}, keyB f ls ys ks xs = some b → ∀ (i : Nat) k x y, ks[i]? = some k → xs[i]? = some x → look ls ys k = some y → ∃ c, f x y = some c
  | [], _, _, _, i, k, x, y, h, _, _ => by simp at h
  | k :: ks, [], _, h, _, _, _, _, _, _, _ => by cases h
  | k :: ks, x :: xs, b, h, 0, k', x', y, e1, e2, e3 => by
    simp at e1 e2
    subst e1 e2
    unfold keyB at h
    rw [e3] at h
    obtain ⟨c, hc, _⟩ := Option.bind_eq_some_iff.mp h
    exact ⟨c, hc⟩
  | k :: ks, x :: xs, b, h, i + 1, k', x', y, e1, e2, e3 => by
    unfold keyB at h
    split at h
    · obtain ⟨c, _, h⟩ := Option.bind_eq_some_iff.mp h
      obtain ⟨d, hd, _⟩ := Option.map_eq_some_iff.mp h
      exact keyB_at hd i k' x' y (by simpa using e1) (by simpa using e2) e3
    · obtain ⟨d, hd, _⟩ := Option.map_eq_some_iff.mp h
      exact keyB_at hd i k' x' y (by simpa using e1) (by simpa using e2) e3
theorem keyB_all {f : D → D → Option Bool} {ls : List Key} {ys : List D} {E : Key → Bool} : ∀ {ks : List Key} {xs : List D} {b : Bool}, keyB f ls ys ks xs = some b → (∀ (i : Nat) k x y c, ks[i]? = some k → xs[i]? = some x → look ls ys k = some y → f x y = some c → E k = c) → b = ks.all fun k => (look ls ys k).isSome && E k
  | [], [], b, h, _ => by cases h; rfl
  | [], _ :: _, b, h, _ => by cases h
  | k :: ks, [], b, h, _ => by cases h
  | k :: ks, x :: xs, b, h, hE => by
    unfold keyB at h
    rw [List.all_cons]
    split at h
    · rename_i y hy
      obtain ⟨c, hc, h⟩ := Option.bind_eq_some_iff.mp h
      obtain ⟨d, hd, rfl⟩ := Option.map_eq_some_iff.mp h
      rw [hE 0 k x y c rfl rfl hy hc, hy, ← keyB_all hd fun i k x y c e1 e2 => hE (i + 1) k x y c (by simpa using e1) (by simpa using e2)]
      rfl
    · rename_i hn
      obtain ⟨d, hd, rfl⟩ := Option.map_eq_some_iff.mp h
      rw [hn]; rfl
theorem zipB_list {f : D → D → Option Bool} : ∀ {xs ys : List D} {b : Bool}, zipB f xs ys = some b → ∃ bs : List Bool, bs.length = xs.length ∧ ys.length = xs.length ∧ b = bs.all id ∧ ∀ (j : Nat) x y c, xs[j]? = some x → ys[j]? = some y → bs[j]? = some c → f x y = some c
  | [], [], b, h => ⟨[], rfl, rfl, by cases h; rfl, fun j x y c e _ _ => by simp at e⟩
  | [], y :: ys, b, h => by cases h
  | x :: xs, [], b, h => by cases h
  | x :: xs, y :: ys, b, h => by
    unfold zipB at h
    obtain ⟨c, hc, h⟩ := Option.bind_eq_some_iff.mp h
    obtain ⟨d, hd, rfl⟩ := Option.map_eq_some_iff.mp h
    obtain ⟨bs, h1, h2, h3, h4⟩ := zipB_list hd
    refine ⟨c :: bs, by simp [h1], by simp [h2], by rw [List.all_cons, ← h3]; rfl, fun j x' y' c' e1 e2 e3 => ?_⟩
    cases j with
    | zero =>
      simp at e1 e2 e3
      subst e1 e2 e3
      exact hc
    | succ j => exact h4 j x' y' c' (by simpa using e1) (by simpa using e2) (by simpa using e3)
theorem all_range (bs : List Bool) : (List.range bs.length).all (fun j => bs.getD j true) = bs.all id := by
  rw [Bool.eq_iff_iff, List.all_eq_true, List.all_eq_true]
  constructor
  · intro h b hb
    obtain ⟨j, hj⟩ := List.getElem?_of_mem hb
    have hl := (List.getElem?_eq_some_iff.mp hj).1
    have := h j (List.mem_range.mpr hl)
    rw [List.getD_eq_getElem?_getD, hj] at this
    exact this
  · intro h j hj
    have hl := List.mem_range.mp hj
    have e := List.getElem?_eq_getElem hl
    show bs.getD j true = true
    rw [List.getD_eq_getElem?_getD, e]
    exact h _ (List.getElem_mem hl)
theorem zip_inj {α β : Type} : ∀ {as cs : List α} {bs ds : List β}, as.length = bs.length → cs.length = ds.length → as.zip bs = cs.zip ds → as = cs ∧ bs = ds
  | [], [], [], [], _, _, _ => ⟨rfl, rfl⟩
  | [], c :: cs, [], d :: ds, _, _, h => by cases h
  | a :: as, [], b :: bs, [], _, _, h => by cases h
  | a :: as, c :: cs, b :: bs, d :: ds, l1, l2, h => by
    rw [List.zip_cons_cons, List.zip_cons_cons] at h
    injection h with h1 h2
    obtain ⟨rfl, rfl⟩ := zip_inj (by simpa using l1) (by simpa using l2) h2
    cases h1
    exact ⟨rfl, rfl⟩
theorem Rd.fun_ {a : Addr} {k1 k2 : List (Key × V)} (h1 : Rd G a (.dK k1)) (h2 : Rd G a (.dK k2)) : k1 = k2 := by
  rcases h1 with h1 | ⟨_, h1⟩ <;> rcases h2 with h2 | ⟨_, h2⟩ <;> rw [h1] at h2 <;> cases h2 <;> rfl
theorem dk_nd (I : Inv X pins σ H s) {a : Addr} {ks : List Key} {vs : List V} (hl : ks.length = vs.length) (h : Rd H a (.dK (ks.zip vs))) : ks.Nodup := by
  obtain ⟨_, _, ws, rel, o, es, ep, _, _, _, _, _, nd⟩ := dk_rd I.hok h
  rw [← rel.keys, List.map_fst_zip (by omega)] at nd
  exact nd
theorem deq_same (I : Inv X pins σ H s) (gh : Same G H) : ∀ (n : Nat) (x y : D) (v : V) (u : Value) (b : Bool), R X.K X.mg G x v → R X.K X.mg G y v → RelV v u → deq n x y = some b → b = true
  | 0, x, y, v, u, b, rx, ry, ru, h => by
    unfold deq at h
    split at h
    · rename_i p
      rw [Bool.and_eq_true] at p
      cases h
      exact plain_same I gh rx ry ru p.1 p.2
    · cases h
  | n + 1, x, y, v, u, b, rx, ry, ru, h => by
    unfold deq at h
    split at h
    · rename_i p
      rw [Bool.and_eq_true] at p
      cases h
      exact plain_same I gh rx ry ru p.1 p.2
    · split at h
      · rename_i xs ys _
        obtain ⟨a, vs, rfl, l1, g1, q1⟩ := rx
        obtain ⟨a2, vs2, e, l2, g2, q2⟩ := ry
        cases e
        rw [g1] at g2
        cases g2
        rw [if_pos (q1.len.symm.trans q2.len)] at h
        obtain ⟨us, r1, _, _⟩ := I.list (SqL.of (gh _ _ g1))
        exact zipB_same I (deq_same I gh n) q1 q2 r1 h
      · rename_i xs ys _
        obtain ⟨a, vs, rfl, l1, g1, q1⟩ := rx
        obtain ⟨a2, vs2, e, l2, g2, q2⟩ := ry
        cases e
        rw [g1] at g2
        cases g2
        rw [if_pos (q1.len.symm.trans q2.len)] at h
        obtain ⟨us, r1, _, _⟩ := I.tuple (SqT.of (gh _ _ g1))
        exact zipB_same I (deq_same I gh n) q1 q2 r1 h
      · rename_i ks xs ls ys _
        obtain ⟨a, vs, rfl, l1, g1, q1⟩ := rx
        obtain ⟨a2, vs2, e, l2, g2, q2⟩ := ry
        cases e
        have k1 : ks.length = vs.length := by rw [q1.len]; exact l1
        obtain ⟨rfl, rfl⟩ := zip_inj k1 (by rw [q2.len]; exact l2) (Rd.fun_ g1 g2)
        have nd := dk_nd I k1 (Rd.mono gh g1)
        obtain ⟨_, _, ws, rel, _⟩ := dk_rd I.hok (Rd.mono gh g1)
        obtain ⟨c, hc, rfl⟩ := Option.map_eq_some_iff.mp h
        rw [keyB_all (E := fun _ => true) hc fun i k x y c e1 e2 e3 e4 => ?_]
        · rw [beq_self_eq_true, Bool.true_and]
          refine List.all_eq_true.mpr fun k hk => ?_
          obtain ⟨i, hi⟩ := List.getElem?_of_mem hk
          have hil := (List.getElem?_eq_some_iff.mp hi).1
          rw [look_mem nd hi (List.getElem?_eq_getElem (by omega : i < ys.length))]
          rfl
        · obtain ⟨v1, hv1, r1⟩ := q1.get e2
          have hil := (List.getElem?_eq_some_iff.mp e1).1
          have ey : ys[i]? = some y := by
            have h1 := List.getElem?_eq_getElem (by omega : i < ys.length)
            rw [look_mem nd e1 h1] at e3
            rw [h1]; exact e3
          obtain ⟨v2, hv2, r2⟩ := q2.get ey
          rw [hv1] at hv2
          cases hv2
          obtain ⟨q, hq, rq⟩ := kv_get rel (i := i) (k := k) (v := v1) (List.getElem?_zip_eq_some.mpr ⟨e1, hv1⟩)
          exact (deq_same I gh n x y v1 q c r1 r2 rq e4).symm
      · cases h
def TreeOf (X : Cx) (G : Hp) (s : Shared) (n : Nat) (f : D → D → Option Bool) : Prop := ∀ (x y : D) (v w : V) (u t : Value) (b : Bool), R X.K X.mg G x v → R X.K X.mg G y w → RelV v u → RelV w t → f x y = some b → PySem.W.EqTree X.prog X.w s n u t b
theorem items_tree {n : Nat} {f : D → D → Option Bool} (hf : TreeOf X G s n f) {xs ys : List D} {vs ws : List V} {us ts : List Value} {b : Bool} (q1 : Rs X.K X.mg G xs vs) (q2 : Rs X.K X.mg G ys ws) (r1 : Vals vs us) (r2 : Vals ws ts) (h : zipB f xs ys = some b) :
    us.toArray.size = ts.toArray.size ∧ ∃ e : Nat → Bool, (List.range us.toArray.size).all e = b ∧ ∀ j (h1 : j < us.toArray.size) (h2 : j < ts.toArray.size), PySem.W.EqTree X.prog X.w s n us.toArray[j] ts.toArray[j] (e j) := by
  have n1 : us.length = xs.length := by rw [← r1.length, q1.len]
  have n2 : ts.length = ys.length := by rw [← r2.length, q2.len]
  obtain ⟨bs, b1, b2, rfl, b4⟩ := zipB_list h
  refine ⟨by rw [List.size_toArray, List.size_toArray, n1, n2, b2], fun j => bs.getD j true, ?_, fun j h1 h2 => ?_⟩
  · rw [← all_range bs, show bs.length = us.toArray.size by rw [List.size_toArray]; omega]
  · have j1 : j < us.length := by simpa using h1
    have j2 : j < ts.length := by simpa using h2
    obtain ⟨v1, hv1, rx1⟩ := q1.get (List.getElem?_eq_getElem (by omega : j < xs.length))
    obtain ⟨v2, hv2, ry1⟩ := q2.get (List.getElem?_eq_getElem (by omega : j < ys.length))
    obtain ⟨u1, hu1, ru1⟩ := r1.get hv1
    obtain ⟨u2, hu2, ru2⟩ := r2.get hv2
    have e1 : us.toArray[j] = u1 := by
      obtain ⟨_, q⟩ := List.getElem?_eq_some_iff.mp hu1
      simpa using q
    have e2 : ts.toArray[j] = u2 := by
      obtain ⟨_, q⟩ := List.getElem?_eq_some_iff.mp hu2
      simpa using q
    have e3 := List.getElem?_eq_getElem (by omega : j < bs.length)
    show PySem.W.EqTree X.prog X.w s n us.toArray[j] ts.toArray[j] (bs.getD j true)
    rw [e1, e2, show bs.getD j true = bs[j] by rw [List.getD_eq_getElem?_getD, e3]; rfl]
    exact hf _ _ v1 v2 u1 u2 _ rx1 ry1 ru1 ru2 (b4 j _ _ _ (List.getElem?_eq_getElem (by omega)) (List.getElem?_eq_getElem (by omega)) e3)
theorem dict_tree (I : Inv X pins σ H s) (gh : Same G H) {n : Nat} {f : D → D → Option Bool} (hf : TreeOf X G s n f) {ks ls : List Key} {xs ys : List D} {vs ws : List V} {a c : Addr} {r : Bool} (l1 : ks.length = xs.length) (l2 : ls.length = ys.length) (g1 : Rd G a (.dK (ks.zip vs))) (g2 : Rd G c (.dK (ls.zip ws)))
    (q1 : Rs X.K X.mg G xs vs) (q2 : Rs X.K X.mg G ys ws) (hr : keyB f ls ys ks xs = some r) :
    ∃ (ka kb : List (Key × Value)) (e : Key → Bool), (a == sysModules) = false ∧ (c == sysModules) = false ∧ s.heap.DictOf (mixKind X.prog X.w) a ka ∧ s.heap.DictOf (mixKind X.prog X.w) c kb ∧
      ((ks.length == ls.length) && r) = (ka.length == kb.length && ka.all fun p => (valueAt kb p.1).isSome && e p.1) ∧ ∀ k v y, (k, v) ∈ ka → valueAt kb k = some y → PySem.W.EqTree X.prog X.w s n v y (e k) := by
  have k1 : ks.length = vs.length := by rw [q1.len]; exact l1
  have k2 : ls.length = ws.length := by rw [q2.len]; exact l2
  have nd := dk_nd I k1 (Rd.mono gh g1)
  obtain ⟨_, y1, ka, rel1, d1⟩ := dk_rd I.hok (Rd.mono gh g1)
  obtain ⟨_, y2, kb, rel2, d2⟩ := dk_rd I.hok (Rd.mono gh g2)
  have z1 : ka.map (·.1) = ks := by rw [← rel1.keys, List.map_fst_zip (by omega)]
  have z2 : ka.length = ks.length := by rw [← z1, List.length_map]
  have z3 : kb.length = ls.length := by rw [← rel2.length, List.length_zip]; omega
  have at_ : ∀ k, (look ls ys k = none ∧ valueAt kb k = none) ∨ ∃ d z w, look ls ys k = some d ∧ valueAt kb k = some z ∧ R X.K X.mg G d w ∧ RelV w z := fun k => by
    have rr := rel2.val k
    rcases look_ok k q2 l2 with ⟨h1, h2⟩ | ⟨d, w, h1, h2, h3⟩
    · rw [h2] at rr
      cases hv : valueAt kb k with
      | none => exact .inl ⟨h1, rfl⟩
      | some z => rw [hv] at rr; exact rr.elim
    · rw [h2] at rr
      obtain ⟨z, hz, rz⟩ := rr.some_of
      exact .inr ⟨d, z, w, h1, hz, h3, rz⟩
  have hE : ∀ (i : Nat) k x y c, ks[i]? = some k → xs[i]? = some x → look ls ys k = some y → f x y = some c → (match look ks xs k, look ls ys k with | some x, some y => (f x y).getD true | _, _ => true) = c := fun i k x y c e1 e2 e3 e4 => by
    rw [look_mem nd e1 e2, e3]
    dsimp only
    rw [e4]; rfl
  refine ⟨ka, kb, fun k => match look ks xs k, look ls ys k with | some x, some y => (f x y).getD true | _, _ => true, y1, y2, d1, d2, ?_, fun k q z hm hz => ?_⟩
  · rw [z2, z3, keyB_all hr hE, ← z1, List.all_map]
    congr 1
    refine congrArg (fun f => List.all ka f) (funext fun p => ?_)
    show ((look ls ys p.1).isSome && _) = _
    rcases at_ p.1 with ⟨h1, h2⟩ | ⟨d, z, w, h1, h2, _⟩ <;> simp [h1, h2]
  · obtain ⟨i, hi⟩ := List.getElem?_of_mem hm
    obtain ⟨v1, hv1, rv1⟩ := KV.at' rel1 hi
    obtain ⟨e1, e2⟩ := List.getElem?_zip_eq_some.mp hv1
    have hil := (List.getElem?_eq_some_iff.mp e1).1
    have e3 := List.getElem?_eq_getElem (by omega : i < xs.length)
    obtain ⟨v3, hv3, rx1⟩ := q1.get e3
    rw [e2] at hv3
    cases hv3
    rcases at_ k with ⟨_, h2⟩ | ⟨d, z', w, h1, h2, h3, h4⟩
    · rw [h2] at hz; cases hz
    · rw [h2] at hz
      cases hz
      obtain ⟨c', hc⟩ := keyB_at hr i k _ d e1 e3 h1
      show PySem.W.EqTree X.prog X.w s n q z (match look ks xs k, look ls ys k with | some x, some y => (f x y).getD true | _, _ => true)
      rw [hE i k _ d c' e1 e3 h1 hc]
      exact hf _ _ v1 w q z c' rx1 h3 rv1 h4 hc
theorem deq_tree (I : Inv X pins σ H s) (gh : Same G H) : ∀ (n : Nat), TreeOf X G s (n + 61) (deq n) := by
  have leaf : ∀ (n : Nat) (x y : D) (v w : V) (u t : Value), R X.K X.mg G x v → R X.K X.mg G y w → RelV v u → RelV w t → plain 60 x = true → plain 60 y = true → PySem.W.EqTree X.prog X.w s (n + 61) u t (eqv x y) := fun n x y v w u t rx ry ru rt p q => by
    obtain ⟨as, h1⟩ := Dp.reads I _ v u (py_dp gh 60 x v p rx) ru
    obtain ⟨bs, h2⟩ := Dp.reads I _ w t (py_dp gh 60 y w q ry) rt
    have l1 := py_lay 60 x v p rx
    have l2 := py_lay 60 y w q ry
    rw [← eqv_py 60 x y p q]
    exact .leaf fun A hu => SeqAt.eqAt_reads _ _ A s u t as bs h1 h2 l1.1 l2.1 (by have := Nat.min_le_left (py x).depth (py y).depth; omega)
  intro n
  induction n with
  | zero =>
    intro x y v w u t b rx ry ru rt h
    unfold deq at h
    split at h
    · rename_i p
      rw [Bool.and_eq_true] at p
      cases h
      exact leaf 0 x y v w u t rx ry ru rt p.1 p.2
    · cases h
  | succ n ih =>
    intro x y v w u t b rx ry ru rt h
    have h0 := h
    unfold deq at h
    split at h
    · rename_i p
      rw [Bool.and_eq_true] at p
      cases h
      exact leaf (n + 1) x y v w u t rx ry ru rt p.1 p.2
    · split at h
      · rename_i xs ys _
        obtain ⟨a, vs, rfl, l1, g1, q1⟩ := id rx
        obtain ⟨c, ws, rfl, l2, g2, q2⟩ := id ry
        obtain rfl : u = Value.ref a := ru
        obtain rfl : t = Value.ref c := rt
        by_cases e : a = c
        · subst e
          rw [deq_same I gh (n + 1) _ _ _ (Value.ref a) b rx ry rfl h0]
          exact .same
        · obtain ⟨us, r1, p1, _⟩ := I.list (SqL.of (gh _ _ g1))
          obtain ⟨ts, r2, p2, _⟩ := I.list (SqL.of (gh _ _ g2))
          split at h
          · obtain ⟨sz, e', rfl, tr⟩ := items_tree ih q1 q2 r1 r2 h
            exact .lists (n := n + 61) e p1.isList p2.isList sz tr
          · rename_i hl
            cases h
            refine .listsLen (n := n + 61) e p1.isList p2.isList ?_
            rw [List.size_toArray, List.size_toArray, ← r1.length, ← r2.length, q1.len, q2.len]; simpa using hl
      · rename_i xs ys _
        obtain ⟨a, vs, rfl, l1, g1, q1⟩ := id rx
        obtain ⟨c, ws, rfl, l2, g2, q2⟩ := id ry
        obtain rfl : u = Value.ref a := ru
        obtain rfl : t = Value.ref c := rt
        by_cases e : a = c
        · subst e
          rw [deq_same I gh (n + 1) _ _ _ (Value.ref a) b rx ry rfl h0]
          exact .same
        · obtain ⟨us, r1, p1, _⟩ := I.tuple (SqT.of (gh _ _ g1))
          obtain ⟨ts, r2, p2, _⟩ := I.tuple (SqT.of (gh _ _ g2))
          split at h
          · obtain ⟨sz, e', rfl, tr⟩ := items_tree ih q1 q2 r1 r2 h
            have := PySem.W.EqTree.tuples (n := n + 61) e p1 p2 tr
            rw [← sz, Nat.min_self, beq_self_eq_true, Bool.and_true] at this
            exact this
          · cases h
      · rename_i ks xs ls ys _
        obtain ⟨a, vs, rfl, l1, g1, q1⟩ := id rx
        obtain ⟨c, ws, rfl, l2, g2, q2⟩ := id ry
        obtain rfl : u = Value.ref a := ru
        obtain rfl : t = Value.ref c := rt
        by_cases e : a = c
        · subst e
          rw [deq_same I gh (n + 1) _ _ _ (Value.ref a) b rx ry rfl h0]
          exact .same
        · obtain ⟨r, hr, rfl⟩ := Option.map_eq_some_iff.mp h
          obtain ⟨ka, kb, e', y1, y2, d1, d2, res, tr⟩ := dict_tree I gh ih l1 l2 g1 g2 q1 q2 hr
          rw [res]
          exact .dicts (n := n + 61) e y1 y2 d1 d2 tr
      · cases h
def eqK (a b : D) : Option D := (deq 6 a b).map .bl
theorem eqK_ok (hu : X.A.units + 80 < cLine) : OpD X (compareOp .Eq) eqK := by
  rintro pins s σ H x y v u Q I rx ry ⟨G, d, e, c, gh, r1, r2, hg, k⟩
  obtain ⟨b, h, rfl⟩ := Option.map_eq_some_iff.mp hg
  unfold deq at h
  split at h
  · rename_i p
    rw [Bool.and_eq_true] at p
    cases h
    obtain ⟨as, h1⟩ := Dp.reads I _ x v (py_dp gh 60 d x p.1 r1) rx
    obtain ⟨bs, h2⟩ := Dp.reads I _ y u (py_dp gh 60 e y p.2 r2) ry
    have l1 := py_lay 60 d x p.1 r1
    have l2 := py_lay 60 e y p.2 r2
    refine SeqAt.compareEq_reads h1 h2 l1.1 l2.1 (by have := Nat.min_le_left (py d).depth (py e).depth; omega) ?_
    rw [eqv_py 60 d e p.1 p.2]
    exact ⟨.bl _, H, I, rfl, k _ _ _ (Stp.refl gh) rfl⟩
  · split at h
    · rename_i xs ys _
      obtain ⟨a, vs, rfl, l1, g1, q1⟩ := r1
      obtain ⟨c, ws, rfl, l2, g2, q2⟩ := r2
      obtain rfl : v = Value.ref a := rx
      obtain rfl : u = Value.ref c := ry
      obtain ⟨us, t1, p1, _⟩ := I.list (SqL.of (gh _ _ g1))
      obtain ⟨ts, t2, p2, _⟩ := I.list (SqL.of (gh _ _ g2))
      split at h
      · obtain ⟨sz, e', rfl, tr⟩ := items_tree (deq_tree I gh 5) q1 q2 t1 t2 h
        exact PySem.W.eq_listsT p1.isList p2.isList sz tr (by omega) ⟨.bl _, H, I, rfl, k _ _ _ (Stp.refl gh) rfl⟩
      · rename_i hl
        cases h
        exact SeqAt.eq_list_lengthsAt p1.isList p2.isList (by rw [List.size_toArray, List.size_toArray, ← t1.length, ← t2.length, q1.len, q2.len]; simpa using hl) (by omega) ⟨.bl _, H, I, rfl, k _ _ _ (Stp.refl gh) rfl⟩
    · rename_i xs ys _
      obtain ⟨a, vs, rfl, l1, g1, q1⟩ := r1
      obtain ⟨c, ws, rfl, l2, g2, q2⟩ := r2
      obtain rfl : v = Value.ref a := rx
      obtain rfl : u = Value.ref c := ry
      obtain ⟨us, t1, p1, _⟩ := I.tuple (SqT.of (gh _ _ g1))
      obtain ⟨ts, t2, p2, _⟩ := I.tuple (SqT.of (gh _ _ g2))
      split at h
      · obtain ⟨sz, e', rfl, tr⟩ := items_tree (deq_tree I gh 5) q1 q2 t1 t2 h
        refine PySem.W.eq_tuplesT p1 p2 tr (by omega) ?_
        rw [← sz, Nat.min_self, beq_self_eq_true, Bool.and_true]
        exact ⟨.bl _, H, I, rfl, k _ _ _ (Stp.refl gh) rfl⟩
      · cases h
    · rename_i ks xs ls ys _
      obtain ⟨a, vs, rfl, l1, g1, q1⟩ := r1
      obtain ⟨c, ws, rfl, l2, g2, q2⟩ := r2
      obtain rfl : v = Value.ref a := rx
      obtain rfl : u = Value.ref c := ry
      obtain ⟨r, hr, rfl⟩ := Option.map_eq_some_iff.mp h
      obtain ⟨ka, kb, e', y1, y2, d1, d2, res, tr⟩ := dict_tree I gh (deq_tree I gh 5) l1 l2 g1 g2 q1 q2 hr
      refine PySem.W.eq_dictsT y1 y2 d1 d2 tr (by omega) ?_
      rw [← res]
      exact ⟨.bl _, H, I, rfl, k _ _ _ (Stp.refl gh) rfl⟩
    · cases h
end
end FL
/-! The functional layer, part Pu: != over dicts; a dict's keys listed; get. -/
namespace FL
open PySem PySem.Spec PyProof.Rows L2
/-! ### != of two lists whose items compare as is known for this program -/
section
open PySem.SeqAt
open AutoSeq1 (wpAny_loadPart')
open MeetsSeq MeetsSeq2 MeetsSeq3 SeqRoads2
variable {prog : Program} {w : World}
theorem neL_loop (l b : Addr) (xs ys : Array Value) (n n2 : Nat) (dd dd2 : Option Addr) (sl sl2 : Array (Option Value)) (hsz : xs.size = ys.size) (e : Nat → Bool) (k : Nat) :
    ∀ i : Nat, xs.size - i = k → MeetsIn prog w (Builtin.«list.__eq__.loop» ⟨[.ref l, .ref b, rawInt i, rawInt 3], []⟩)
      (fun A R s => s.heap.get? l = some { cls := .type "list", dict := dd, data := .seq xs n, slots := sl } ∧ s.heap.get? b = some { cls := .type "list", dict := dd2, data := .seq ys n2, slots := sl2 } ∧
        (∀ j (h1 : j < xs.size) (h2 : j < ys.size), EqIn prog w A.in1 s xs[j] ys[j] (e j)) ∧ R (.ok (.ret (.bool (!((List.range xs.size).drop i).all e)))) s) := by
  induction k with
  | zero =>
    intro i hk A R s h
    obtain ⟨hp, g, d, tk, os⟩ := s; obtain ⟨hl, hb, he, h⟩ := h
    wp_walk using wpAny_loadPart' hl, wpAny_loadPart' hb
    rw [show (List.range xs.size).drop i = [] by simp; omega] at h
    rw [show xs[((i : Nat) : Int).toNat]? = none by simp; omega, show ys[((i : Nat) : Int).toNat]? = none by simp; omega]
    wp_walk using wpAny_loadPart' hl, wpAny_loadPart' hb
    show R (.ok (.ret (.bool (xs.size != ys.size)))) _
    rw [hsz]
    simpa using h
  | succ k ih =>
    intro i hk A R s h
    obtain ⟨hp, g, d, tk, os⟩ := s; obtain ⟨hl, hb, he, h⟩ := h
    wp_walk using wpAny_loadPart' hl, wpAny_loadPart' hb
    have h1 : i < xs.size := by omega
    have h2 : i < ys.size := by omega
    rw [show (List.range xs.size).drop i = i :: (List.range xs.size).drop (i + 1) by simp [List.drop_eq_getElem_cons, h1], List.all_cons] at h
    rw [show xs[((i : Nat) : Int).toNat]? = some xs[i] by simp [h1], show ys[((i : Nat) : Int).toNat]? = some ys[i] by simp [h2]]
    refine wpAny_bind (he i h1 h2 _ _ ?_)
    cases hc : e i with
    | true =>
      rw [hc] at h
      wp_walk
      rw [show ((i : Int) + 1) = ((i + 1 : Nat) : Int) by push_cast; rfl]
      exact ⟨plainId_quiet plain_eq_loop _, codeAny_builtin entry_eq_loop (by
        rw [Around.under_plainId plain_eq_loop _]
        exact ih (i + 1) (by omega) A R _ ⟨hl, hb, he, by simpa using h⟩)⟩
    | false =>
      rw [hc] at h
      wp_walk using wpAny_loadPart' hl, wpAny_loadPart' hb
      rw [show xs[((i : Nat) : Int).toNat]? = some xs[i] by simp [h1], show ys[((i : Nat) : Int).toNat]? = some ys[i] by simp [h2]]
      wp_walk
      simpa using h
theorem neL_in (l b : Addr) (xs ys : Array Value) (n n2 : Nat) (dd dd2 : Option Addr) (sl sl2 : Array (Option Value)) (hsz : xs.size = ys.size) (e : Nat → Bool) :
    MeetsIn prog w (Builtin.«list.__ne__» ⟨[.ref l, .ref b], []⟩)
      (fun A R s => s.heap.get? l = some { cls := .type "list", dict := dd, data := .seq xs n, slots := sl } ∧ s.heap.get? b = some { cls := .type "list", dict := dd2, data := .seq ys n2, slots := sl2 } ∧
        (∀ j (h1 : j < xs.size) (h2 : j < ys.size), EqIn prog w A.in1 s xs[j] ys[j] (e j)) ∧ R (.ok (.ret (.bool (!(List.range xs.size).all e)))) s) := by
  intro A R s h
  obtain ⟨hp, g, d, tk, os⟩ := s; obtain ⟨hl, hb, he, h⟩ := h
  have f3 := AutoSeq1.sub_list_list
  have hne : ¬ (xs.size != ys.size) = true := by simp [hsz]
  wp_walk using wpAny_loadPart' hl, wpAny_loadPart' hb
  exact ⟨plainId_quiet plain_eq_loop _, codeAny_builtin entry_eq_loop (by
    rw [Around.under_plainId plain_eq_loop _]
    exact neL_loop l b xs ys n n2 dd dd2 sl sl2 hsz e _ 0 rfl A R _ ⟨hl, hb, he, by simpa using h⟩)⟩
theorem ne_listsT {A : Around} {s : Shared} {E : Value → Shared → Prop} {n : Nat} {l b : Addr} {xs ys : Array Value} {e : Nat → Bool} {Q : Value → Shared → Prop} (hl : s.heap.IsList l xs) (hb : s.heap.IsList b ys) (hsz : xs.size = ys.size)
    (t : ∀ j (h1 : j < xs.size) (h2 : j < ys.size), PySem.W.EqTree prog w s n xs[j] ys[j] (e j)) (hu : A.units + (n + 1) < cLine) (h : Q (.bool (!(List.range xs.size).all e)) s) : wpAny (model prog w) A (compareOp .NotEq (.ref l) (.ref b)) Q E s := by
  obtain ⟨⟨cls, dd, data, sl⟩, ho, hc, n1, hd⟩ := id hl
  obtain ⟨⟨cls2, dd2, data2, sl2⟩, ho2, hc2, n2, hd2⟩ := id hb
  simp only at hc hd hc2 hd2
  subst hc hd hc2 hd2
  exact wpAny_richCompare_same_room (T := "list") (op := .NotEq) ⟨_, ho, rfl⟩ ⟨_, ho2, rfl⟩ F.slot_list_ne (call_meetsIn F.slot_list_ne ⟨_, ho, rfl⟩ F.entry_list_ne (F.args_list_ne_2 _ _) (neL_in l b xs ys n1 n2 dd dd2 sl sl2 hsz e)
    ⟨ho, ho2, fun j h1 h2 => (t j h1 h2).at _ (by show A.units + 1 + _ < cLine; omega), show Value.bool (!(List.range xs.size).all e) ≠ Value.notImplemented ∧ Q (.bool (!(List.range xs.size).all e)) s from ⟨(fun x => nomatch x), h⟩⟩) (by omega)
end
section
variable {X : Cx} {W : WW}
theorem ne_dictsT {prog : Program} {w : World} {A : Around} {s : Shared} {E : Value → Shared → Prop} {K : Type} [DecidableEq K] {knd : KeyKind prog w K} {n : Nat} {a b : Addr} {ka kb : List (K × Value)} {e : K → Bool} {Q : Value → Shared → Prop} (ha : (a == sysModules) = false) (hb : (b == sysModules) = false)
    (da : s.heap.DictOf knd a ka) (db : s.heap.DictOf knd b kb) (t : ∀ k v y, (k, v) ∈ ka → valueAt kb k = some y → PySem.W.EqTree prog w s n v y (e k)) (hu : A.units + (n + 1) < cLine)
    (h : Q (.bool (!(ka.length == kb.length && ka.all fun p => (valueAt kb p.1).isSome && e p.1))) s) : wpAny (model prog w) A (compareOp .NotEq (.ref a) (.ref b)) Q E s := by
  refine wpAny_richCompare_same_room (op := .NotEq) da.typeIs db.typeIs PySem.F.slot_dict_ne (wpAny_call_entry PySem.F.slot_dict_ne da.typeIs PySem.F.entry_dict_ne ?_ (PySem.F.args_dict_ne_2 _ _)) (by omega)
  show wpAny _ _ (Builtin.Dict.dictSlotArgs "__ne__" ⟨[.ref a, .ref b], []⟩ >>= _) _ _ s
  refine wpAny_bind ?_
  unfold Builtin.Dict.dictSlotArgs
  refine wpAny_bind (wpAny_notOrdered_dict da.typeIs (wpAny_pure ?_))
  refine wpAny_bind (wpAny_isInstance (T := "dict") db.typeIs PySem.F.sub_dict_dict ?_)
  simp only [Bool.not_true, Bool.false_eq_true, if_false]
  refine wpAny_bind (wpAny_pure (wpAny_bind (wpAny_pure ?_)))
  refine wpAny_bind (PySem.W.keq_samePairsIn ha hb da db (fun _ => PySem.W.KeqHitsIn.of _ fun k v y hm hv => (t k v y hm hv).at _ (by show A.units + 1 + _ < cLine; omega)) ?_)
  exact wpAny_pure ⟨_, rfl, (fun x => nomatch x), by simpa using h⟩
def notTp : D → Bool
  | .tup _ => false
  | _ => true
def neK (a b : D) : Option D := if (notTp a || (plain 60 a && plain 60 b)) = true then (deq 6 a b).map fun r => .bl (!r) else none
theorem neK_ok (hu : X.A.units + 80 < cLine) : OpD X (compareOp .NotEq) neK := by
  rintro pins s σ H x y v u Q I rx ry ⟨G, d, e, c, gh, r1, r2, hg, k⟩
  unfold neK at hg
  split at hg
  case isFalse => cases hg
  rename_i nt
  obtain ⟨b, h, rfl⟩ := Option.map_eq_some_iff.mp hg
  unfold deq at h
  split at h
  · rename_i p
    rw [Bool.and_eq_true] at p
    cases h
    obtain ⟨as, h1⟩ := Dp.reads I _ x v (py_dp gh 60 d x p.1 r1) rx
    obtain ⟨bs, h2⟩ := Dp.reads I _ y u (py_dp gh 60 e y p.2 r2) ry
    have l1 := py_lay 60 d x p.1 r1
    have l2 := py_lay 60 e y p.2 r2
    refine SeqAt.compareNe_reads h1 h2 l1.1 l2.1 (by have := Nat.min_le_left (py d).depth (py e).depth; omega) ?_
    rw [eqv_py 60 d e p.1 p.2]
    exact ⟨.bl _, H, I, rfl, k _ _ _ (Stp.refl gh) rfl⟩
  · split at h
    · rename_i xs ys _
      obtain ⟨a, vs, rfl, l1, g1, q1⟩ := r1
      obtain ⟨c, ws, rfl, l2, g2, q2⟩ := r2
      obtain rfl : v = Value.ref a := rx
      obtain rfl : u = Value.ref c := ry
      obtain ⟨us, t1, p1, _⟩ := I.list (SqL.of (gh _ _ g1))
      obtain ⟨ts, t2, p2, _⟩ := I.list (SqL.of (gh _ _ g2))
      split at h
      · obtain ⟨sz, e', rfl, tr⟩ := items_tree (deq_tree I gh 5) q1 q2 t1 t2 h
        exact ne_listsT p1.isList p2.isList sz tr (by omega) ⟨.bl _, H, I, rfl, k _ _ _ (Stp.refl gh) rfl⟩
      · rename_i hl
        cases h
        exact SeqAt.RcNeAt.lists_lengths p1.isList p2.isList (by rw [List.size_toArray, List.size_toArray, ← t1.length, ← t2.length, q1.len, q2.len]; simpa using hl) (by omega) _ _ _ _ ⟨.bl _, H, I, rfl, k _ _ _ (Stp.refl gh) rfl⟩
    · rename_i np _ xs ys _
      rw [Bool.or_eq_true] at nt
      rcases nt with nt | nt
      · cases nt
      · exact absurd nt (by assumption)
    · rename_i ks xs ls ys _
      obtain ⟨a, vs, rfl, l1, g1, q1⟩ := r1
      obtain ⟨c, ws, rfl, l2, g2, q2⟩ := r2
      obtain rfl : v = Value.ref a := rx
      obtain rfl : u = Value.ref c := ry
      obtain ⟨r, hr, rfl⟩ := Option.map_eq_some_iff.mp h
      obtain ⟨ka, kb, e', y1, y2, d1, d2, res, tr⟩ := dict_tree I gh (deq_tree I gh 5) l1 l2 g1 g2 q1 q2 hr
      refine ne_dictsT y1 y2 d1 d2 tr (by omega) ?_
      rw [← res]
      exact ⟨.bl _, H, I, rfl, k _ _ _ (Stp.refl gh) rfl⟩
    · cases h
/-! ### a dict's keys, listed -/
def listK : List D → Option OT
  | [.dK ks _] => if (decide (ks.length ≤ 16777216) && ks.all okK) = true then some (.lst ((ks.map kD).map .d)) else none
  | _ => none
theorem Rs_keys {K : PySem.W.Frag} {mg : Str → Option Value} {G : Hp} : ∀ {ks : List Key}, ks.all okK = true → Rs K mg G (ks.map kD) (ks.map kV)
  | [], _ => rfl
  | k :: ks, h => by
    rw [List.all_cons, Bool.and_eq_true] at h
    exact Rs.cons (R_key h.1) (Rs_keys h.2)
theorem listK_ok (hc : X.calm = true) : CallO X (.type "list") listK := by
  rintro pins s σ H xs us Q I r ⟨G, ds, c, gh, q, hg, k⟩
  unfold listK at hg
  split at hg
  · rename_i ks ys
    split at hg
    · rename_i ok
      rw [Bool.and_eq_true, decide_eq_true_eq] at ok
      cases hg
      obtain ⟨v, rfl, q0⟩ := q.one
      obtain ⟨p, vs, rfl, l, e1, q1⟩ := q0.dK
      refine call_listD hc pins s σ H _ us Q I r ⟨p, ks.zip vs, rfl, Rd.mono gh e1, fun b hb => ?_⟩
      have ek : ((ks.zip vs).map fun kv => kV kv.1) = ks.map kV := by
        rw [show (fun kv : Key × V => kV kv.1) = kV ∘ Prod.fst from rfl, ← List.map_map, List.map_fst_zip (by rw [q1.len]; omega)]
      rw [ek]
      exact k _ _ _ (Stp.own gh hb) (relO.newL gh hb (by rw [List.length_map]; exact sz_le ok.1) (Rs_keys ok.2))
    · cases hg
  · cases hg
/-! ### d.get(k), d.get(k, x) -/
def isDk : D → Bool
  | .dK _ _ => true
  | _ => false
def getKd : D → D → D → Option D
  | .dK ks xs, k, z => (keyOf k).map fun q => (look ks xs q).getD z
  | _, _, _ => none
def dgt (f k z : En → Res D) (ρ : En) : Res D := (f ρ).bind fun d => if isDk d = true then (k ρ).bind fun y => (z ρ).bind fun w => ofO (getKd d y w) else .bad
theorem isDk_ok {G H : Hp} {d : D} {v : V} (gh : Same G H) (h : isDk d = true) (r : R X.K X.mg G d v) : ∃ a, v = .ref a ∧ IsD H a := by
  cases d <;> first | cases h | skip
  obtain ⟨a, vs, rfl, l, rd, rs⟩ := r
  exact ⟨a, rfl, .inl ⟨_, Rd.mono gh rd⟩⟩
theorem EF.get2 {o e f : Expr} {fo fk fz : En → Res D} {apos cpos : Pos} (hu : X.A.units + 64 < cLine) (ho : EF X W o fo) (he : EF X W e fk) (hf : EF X W f fz) (m : M2 X o "get" apos e f cpos) : EF X W (.Call (.Attribute o "get" apos) [e, f] [] cpos) (dgt fo fk fz) := ⟨fun B => PE.mono (pe_dget2 (by omega) (ho.run B) (he.run B) (hf.run B) m) fun σ H Q ⟨G, ρ, r, h⟩ => by
  unfold dgt at h
  refine lift.next (rel := relD X.K X.mg) (g := fun d ρ => if isDk d = true then (fk ρ).bind fun y => (fz ρ).bind fun w => FL.ofO (getKd d y w) else .bad) later_D r h fun d v G1 H1 r1 s1 q1 w1 => ?_
  by_cases ht : isDk d = true
  · rw [if_pos ht] at w1
    obtain ⟨a, rfl, hd⟩ := isDk_ok r1.gh ht q1
    refine ⟨a, rfl, hd, ?_⟩
    refine lift.next (rel := relD X.K X.mg) (g := fun y ρ => (fz ρ).bind fun w => FL.ofO (getKd d y w)) later_D r1 w1 fun y yv G2 H2 r2 s2 q2 w2 => ?_
    refine lift.next (rel := relD X.K X.mg) (g := fun w ρ => FL.ofO (getKd d y w)) later_D r2 w2 fun w wv G3 H3 r3 s3 q3 w3 => ?_
    cases d <;> first | cases ht | skip
    rename_i ks xs
    unfold getKd at w3
    dsimp only at w3
    cases hk : keyOf y with
    | none => rw [hk] at w3; exact w3.elim
    | some k =>
      rw [hk, Option.map_some] at w3
      have qd := R.mono (s2.gg.trans s3.gg) q1
      obtain ⟨a', e, hg⟩ := dget_K r3.gh qd (R.mono s3.gg q2) hk
      cases e
      rcases hg with ⟨h1, h2⟩ | ⟨c, v, h1, h2, h3⟩
      · rw [h1] at w3
        exact ⟨none, h2, Wr.ok w3 (Stp.refl r3.gh) q3⟩
      · rw [h1] at w3
        exact ⟨some v, h2, Wr.ok w3 (Stp.refl r3.gh) h3⟩
  · rw [if_neg ht] at w1
    exact w1.elim⟩
theorem EF.get1 {o e : Expr} {fo fk : En → Res D} {apos cpos : Pos} (hu : X.A.units + 64 < cLine) (ho : EF X W o fo) (he : EF X W e fk) (m : M1 X o "get" apos e cpos) : EF X W (.Call (.Attribute o "get" apos) [e] [] cpos) (dgt fo fk (c .non)) := ⟨fun B => PE.mono (pe_dget1 (by omega) (ho.run B) (he.run B) m) fun σ H Q ⟨G, ρ, r, h⟩ => by
  unfold dgt at h
  refine lift.next (rel := relD X.K X.mg) (g := fun d ρ => if isDk d = true then (fk ρ).bind fun y => (c .non ρ).bind fun w => FL.ofO (getKd d y w) else .bad) later_D r h fun d v G1 H1 r1 s1 q1 w1 => ?_
  by_cases ht : isDk d = true
  · rw [if_pos ht] at w1
    obtain ⟨a, rfl, hd⟩ := isDk_ok r1.gh ht q1
    refine ⟨a, rfl, hd, ?_⟩
    refine lift.next (rel := relD X.K X.mg) (g := fun y ρ => (c .non ρ).bind fun w => FL.ofO (getKd d y w)) later_D r1 w1 fun y yv G2 H2 r2 s2 q2 w3 => ?_
    cases d <;> first | cases ht | skip
    rename_i ks xs
    unfold FL.c getKd at w3
    rw [Res.bind_ok] at w3
    dsimp only at w3
    cases hk : keyOf y with
    | none => rw [hk] at w3; exact w3.elim
    | some k =>
      rw [hk, Option.map_some] at w3
      have qd := R.mono s2.gg q1
      obtain ⟨a', e, hg⟩ := dget_K r2.gh qd q2 hk
      cases e
      rcases hg with ⟨h1, h2⟩ | ⟨c, v, h1, h2, h3⟩
      · rw [h1] at w3
        exact ⟨none, h2, Wr.ok w3 (Stp.refl r2.gh) rfl⟩
      · rw [h1] at w3
        exact ⟨some v, h2, Wr.ok w3 (Stp.refl r2.gh) h3⟩
  · rw [if_neg ht] at w1
    exact w1.elim⟩
end
theorem hu80 {k : Nat} {A : Around} (r : Room k A) : A.units + 80 < cLine := by
  have := r.un
  omega
end FL
/-! The functional layer, part Pv: x[k], x an owned dict of frozen things. -/
namespace FL
open PySem PySem.Spec PyProof.Rows L2
section
variable {X : Cx} {W : WW} {b : Expr} {fi : En → Res D} {x : Str} {pos ppos : Pos}
def dixT (t : OT) (k : D) : Option D := match t with
  | .dK ks ts => (keyOf k).bind fun q => (keyIx ks q).bind fun j => match ts[j]? with
    | some (.d x) => some x
    | _ => none
  | _ => none
def dix (s : Nat) (fi : En → Res D) (ρ : En) : Res D := match ρ[s]? with
  | some (some t) => (fi ρ).bind fun k => ofO (dixT t k)
  | _ => .bad
theorem EF.dix (s : Nat) (hu : X.A.units + 64 < cLine) (hi : EF X W b fi) (hN : X.N[s]? = some x := by rfl) (hv : Vis X.env.scope x := by first | exact Or.inl rfl | exact Or.inr (Or.inl rfl) | exact Or.inr (Or.inr rfl)) (hd : (x == ("__debug__" : Str)) = false := by decide) (hcd : (x == ("__classdict__" : Str)) = false := by decide)
    (hs : PlainIx b := by intro _ _; rfl) : EF X W (.Subscript (.Name x ppos) b pos) (dix s fi) := ⟨fun B => PE.mono (pe_ix (ix_dict hu) (pe_var (i := s) hN hv hd hcd) (hi.run B) hs) fun σ H Q ⟨G, ρ, r, h⟩ => by
  unfold FL.dix at h
  split at h
  · rename_i t es
    obtain ⟨v, fp, hv, ro⟩ := r.slot es
    refine ⟨v, hv, lift.next (rel := relD X.K X.mg) (g := fun k _ => FL.ofO (dixT t k)) later_D r h fun d y G1 H1 r1 s1 q1 w1 => ?_⟩
    cases ed : dixT t d with
    | none => rw [ed] at w1; exact w1.elim
    | some z =>
      rw [ed] at w1
      cases t <;> first | cases ed | skip
      rename_i ks ts
      unfold dixT at ed
      dsimp only at ed
      obtain ⟨q, hq, ed⟩ := Option.bind_eq_some_iff.mp ed
      obtain ⟨j, hj, ed⟩ := Option.bind_eq_some_iff.mp ed
      split at ed
      · rename_i x' hx
        cases ed
        obtain ⟨v1, fp1, hv1, ro1⟩ := r1.slot es
        rw [hv] at hv1
        cases hv1
        obtain ⟨a, vs, fs, rfl, rfl, hl, hH, ros⟩ := ro1
        obtain ⟨w, hw, hval⟩ := keyIx_ok hj (by rw [ros.len]; exact hl)
        obtain ⟨w', f1, fj, f2, hw', _, ro', _⟩ := ros.at hx
        rw [hw] at hw'
        cases hw'
        exact ⟨a, w, rfl, .inl ⟨_, q, .inl hH, keyOf_ok q1 hq, hval.symm⟩, Wr.ok w1 (Stp.refl r1.gh) ro'.2⟩
      · cases ed
  · exact h.elim⟩
end
end FL
/-! The functional layer, part Pw: x.append(e), e a fresh tree told of an environment that still has x. -/
namespace FL
open PySem PySem.Spec PyProof.Rows L2
section
variable {X : Cx} {W : WW} {io : List Nat} {e : Expr} {fo : En → Res OT} {pos ppos apos cpos : Pos} {x : Str}
def appR (i : Nat) (f : En → Res OT) (ρ : En) : Flw := match ρ[i]? with
  | some (some (.lst ts)) => bindF (f ρ) ρ fun t => if ts.length < 16777216 then .nx (ρ.set i (some (.lst (ts ++ [t])))) else .bad
  | _ => .bad
theorem S1.appR (i : Nat) (h : EO X W e fo) (hN : X.N[i]? = some x := by rfl) (hv : Vis X.env.scope x := by first | exact Or.inl rfl | exact Or.inr (Or.inl rfl) | exact Or.inr (Or.inr rfl)) (hd : (x == ("__debug__" : Str)) = false := by decide) (hcd : (x == ("__classdict__" : Str)) = false := by decide)
    (hs : starEach [e] X.env = (false, eval e X.env) :: starEach [] X.env := by rfl) (hline : (apos.endLine == cpos.line) = true := by rfl)
    (hbase : attributeBase (.Name x ppos) "append" X.env (eval (.Name x ppos) X.env) = eval (.Name x ppos) X.env := by rfl)
    (hfew : ((backTo cpos (starEach [e] X.env)).all (fun x => !x.1) && (backToKw cpos (keywordEach [] X.env)).all (fun x => x.1.isSome) && decide ([e].length + ([] : List Keyword).length + (if ([] : List Keyword).isEmpty then 0 else 1) < 30)) = true := by rfl)
    (hsw : swapsWith (.Call (.Attribute (.Name x ppos) "append" apos) [e] [] cpos) none pos.line X.env = pure false := by rfl) :
    S1 X W io (.Expr (.Call (.Attribute (.Name x ppos) "append" apos) [e] [] cpos) pos) (appR i fo) := ⟨fun B hB =>
  PS.mono (ps_expr (pe_bm PySem.F.plainAttrs_list PySem.F.slot_list_append PySem.F.type_list_append mt_append (pe_var (i := i) hN hv hd hcd) (pa_cons (h.run B) pa_nil hs) hbase hfew hline hs (by rfl)) hsw) fun N σ H ⟨G, ρ, r, h⟩ => by
    unfold FL.appR at h
    split at h
    · rename_i ts es
      obtain ⟨a, vs, fs, hv, l, ha, ro, nd, back⟩ := r.lst es
      refine ⟨.ref a, hv, tyV_lst ha, lift.of r h fun t y G1 H1 r1 s1 ⟨fp, q1, q2, q3⟩ o => ?_⟩
      have rv := r.fresh s1 q1 q2 q3
      obtain ⟨v0, w, gu, fv, h1, h2, ru, rt, nd2, back2⟩ := rv.path (p := []) es rfl
      rw [hv] at h1
      cases h1
      cases h2
      obtain ⟨a', vs', fs', e1, rfl, l', ha', ro'⟩ := ru
      cases e1
      split at o
      · rename_i hl
        have na : a ∉ fs' ++ fv := (List.nodup_cons.mp (by rw [List.cons_append] at nd2; exact nd2)).1
        refine ⟨a, vs', y, rfl, rfl, ha', by rw [ro'.len]; exact sz_lt hl, o _ _ _ (back2 a _ (.lst (ts ++ [t])) (a :: (fs' ++ fv)) List.mem_cons_self ⟨a, _, fs' ++ fv, rfl, rfl, by rw [List.length_append]; exact sz_lt hl, upd_same, ?_⟩ (by rw [List.cons_append] at nd2; exact nd2) fun p hp => ?_)⟩
        · exact ROs.append (ro'.frame (Same.refl _) (H' := upd H1 a (.lst (vs' ++ [y]))) fun p hp => upd_ne fun z => na (List.mem_append_left _ (z ▸ hp))) (ROs.one (rt.frame (Same.refl _) fun p hp => upd_ne fun z => na (List.mem_append_right _ (z ▸ hp))))
        · rcases List.mem_cons.mp hp with rfl | hp
          · exact .inl List.mem_cons_self
          · rcases List.mem_append.mp hp with hp | hp
            · exact .inl (List.mem_cons_of_mem _ hp)
            · exact .inr hp
      · exact o.elim
    · exact h.elim⟩
end
end FL
/-! The functional layer, part Px: x.insert(k, e), e a fresh tree told of an environment that still has x. -/
namespace FL
open PySem PySem.Spec PyProof.Rows L2
section
variable {X : Cx} {W : WW} {io : List Nat} {e0 e : Expr} {fi : En → Res D} {fo : En → Res OT} {pos ppos apos cpos : Pos} {x : Str}
def insR (i : Nat) (g : En → Res D) (f : En → Res OT) (ρ : En) : Flw := match ρ[i]? with
  | some (some (.lst ts)) => bindF (g ρ) ρ fun d => bindF (f ρ) ρ fun t => match d with
    | .int k => if 0 ≤ k ∧ k < 2 ^ 63 ∧ ts.length < 16777216 then .nx (ρ.set i (some (.lst (ts.take k.toNat ++ ([t] ++ ts.drop k.toNat))))) else .bad
    | _ => .bad
  | _ => .bad
theorem S1.insR (i : Nat) (h0 : EF X W e0 fi) (h : EO X W e fo) (hN : X.N[i]? = some x := by rfl) (hv : Vis X.env.scope x := by first | exact Or.inl rfl | exact Or.inr (Or.inl rfl) | exact Or.inr (Or.inr rfl)) (hd : (x == ("__debug__" : Str)) = false := by decide) (hcd : (x == ("__classdict__" : Str)) = false := by decide)
    (hs : starEach [e0, e] X.env = (false, eval e0 X.env) :: starEach [e] X.env := by rfl) (hs2 : starEach [e] X.env = (false, eval e X.env) :: starEach [] X.env := by rfl) (hline : (apos.endLine == cpos.line) = true := by rfl)
    (hp0 : (backTo cpos (starEach [e] X.env)).any (·.1) = false := by rfl)
    (hbase : attributeBase (.Name x ppos) "insert" X.env (eval (.Name x ppos) X.env) = eval (.Name x ppos) X.env := by rfl)
    (hfew : ((backTo cpos (starEach [e0, e] X.env)).all (fun x => !x.1) && (backToKw cpos (keywordEach [] X.env)).all (fun x => x.1.isSome) && decide ([e0, e].length + ([] : List Keyword).length + (if ([] : List Keyword).isEmpty then 0 else 1) < 30)) = true := by rfl)
    (hsw : swapsWith (.Call (.Attribute (.Name x ppos) "insert" apos) [e0, e] [] cpos) none pos.line X.env = pure false := by rfl) :
    S1 X W io (.Expr (.Call (.Attribute (.Name x ppos) "insert" apos) [e0, e] [] cpos) pos) (insR i fi fo) := ⟨fun B hB =>
  PS.mono (ps_expr (pe_bm PySem.F.plainAttrs_list PySem.F.slot_list_insert PySem.F.type_list_insert mt_insert (pe_var (i := i) hN hv hd hcd) (pa_cons (h0.run B) (pa_cons (h.run B) pa_nil hs2) hs) hbase hfew hline hs hp0) hsw) fun N σ H ⟨G, ρ, r, h⟩ => by
    unfold FL.insR at h
    split at h
    · rename_i ts es
      obtain ⟨a, vs, fs, hv, l, ha, ro, nd, back⟩ := r.lst es
      refine ⟨.ref a, hv, tyV_lst ha, lift.of r h fun d w0 G0 H0 r0 s0 q0 o0 => lift.of r0 o0 fun t y G1 H1 r1 s1 ⟨fp, q1, q2, q3⟩ o => ?_⟩
      have rv := r0.fresh s1 q1 q2 q3
      obtain ⟨v0, w, gu, fv, h1, h2, ru, rt, nd2, back2⟩ := rv.path (p := []) es rfl
      rw [hv] at h1
      cases h1
      cases h2
      obtain ⟨a', ws, gs, e1, rfl, l', ha', q⟩ := ru
      cases e1
      split at o
      · rename_i k
        split at o
        · rename_i hl
          cases q0
          have hle : ws.length = ts.length := q.len
          have ndl : a ∉ gs ++ fv := (List.nodup_cons.mp (by rw [List.cons_append] at nd2; exact nd2)).1
          refine ⟨a, ws, k, y, rfl, rfl, ha', by rw [hle]; exact sz_lt hl.2.2, hl.1, hl.2.1, ?_⟩
          have q1 := q.frame (Same.refl _) (H' := upd H1 a (.lst (ws.take k.toNat ++ [y] ++ ws.drop k.toNat))) fun p hp => upd_ne fun (z : p = a) => ndl (by rw [← z]; simp [hp])
          have rt1 := rt.frame (Same.refl _) (H' := upd H1 a (.lst (ws.take k.toNat ++ [y] ++ ws.drop k.toNat))) fun p hp => upd_ne fun (z : p = a) => ndl (by rw [← z]; simp [hp])
          rw [← List.take_append_drop k.toNat ts] at q1
          obtain ⟨g1, g2, e1, e2, e3⟩ := q1.split
          have ht : ws.take (ts.take k.toNat).length = ws.take k.toNat := by
            rw [List.length_take, ← hle]
            exact List.take_eq_take_iff.mpr (by omega)
          have hd : ws.drop (ts.take k.toNat).length = ws.drop k.toNat := by
            rw [List.length_take, ← hle]
            rcases Nat.le_total k.toNat ws.length with z | z
            · rw [Nat.min_eq_left z]
            · rw [Nat.min_eq_right z, List.drop_length, List.drop_eq_nil_of_le z]
          rw [ht] at e2
          rw [hd] at e3
          subst e1
          refine o _ _ _ (back2 a _ (.lst (ts.take k.toNat ++ ([t] ++ ts.drop k.toNat))) (a :: (g1 ++ (fv ++ g2))) List.mem_cons_self ⟨a, _, g1 ++ (fv ++ g2), rfl, rfl, ?_, upd_same, ?_⟩ ?_ fun p hp => ?_)
          · have := sz_lt hl.2.2
            simp only [List.length_append, List.length_take, List.length_drop, List.length_cons, List.length_nil]
            omega
          · have z := e2.append ((ROs.one rt1).append e3)
            rw [← List.append_assoc (ws.take k.toNat) [y] (ws.drop k.toNat)] at z
            exact z
          · have hperm : (a :: (g1 ++ (fv ++ g2))).Perm (a :: (g1 ++ g2) ++ fv) := by
              rw [List.cons_append, List.append_assoc]
              exact List.Perm.cons _ (List.Perm.append_left _ List.perm_append_comm)
            exact hperm.nodup_iff.mpr nd2
          · simp only [List.mem_cons, List.mem_append] at hp ⊢
            rcases hp with hp | hp | hp | hp <;> simp [hp]
        · exact o.elim
      · exact o.elim
    · exact h.elim⟩
end
end FL
/-! The functional layer, part Py: a list or a tuple unpacked into names. -/
namespace FL
open PySem PySem.Spec PyProof.Rows L2
def sU (n : Nat) (gs : List D → En → Option En) (d : D) (ρ : En) : Option En := match d with
  | .tup ds => if ds.length = n then gs ds ρ else none
  | .lst ds => if ds.length = n then gs ds ρ else none
  | _ => none
section
variable {X : Cx} {vs : List Nat} {pos : Pos} {es : List Expr} {gs : List D → En → Option En}
theorem EG.un {k n : Nat} (hc : X.calm = true) (h : EGs X vs es gs) (hn : (assignEach es X.env).length = n := by rfl) (hst : (assignEach es X.env).findIdx? (·.1) = none := by rfl) : EG X vs (.Tuple es k pos) (sU n gs) := ⟨fun B hio => by
  have h1 := pg_tup (k := k) (pos := pos) hc (h.run B hio) hn hst
  have h2 := pg_unl (k := k) (pos := pos) hc (h.run B hio) hn hst
  refine ⟨fun pins s σ H v u Q I r hw => ?_⟩
  obtain ⟨G, ρ, d, ρ', rp, hd, e, kk⟩ := hw
  unfold sU at e
  split at e
  · split at e
    · rename_i hl
      obtain ⟨p, ws, rfl, l, e1, q⟩ := hd.tup
      exact h1.run pins s σ H _ u Q I r ⟨p, ws, rfl, SqT.of (rp.gh _ _ e1), by rw [q.len]; exact hl, G, ρ, _, ρ', rp, q, e, kk⟩
    · cases e
  · split at e
    · rename_i hl
      obtain ⟨p, ws, rfl, l, e1, q⟩ := hd.lst
      exact h2.run pins s σ H _ u Q I r ⟨p, ws, rfl, SqL.of (rp.gh _ _ e1), by rw [q.len]; exact hl, G, ρ, _, ρ', rp, q, e, kk⟩
    · cases e
  · cases e⟩
end
end FL
/-! The functional layer, part Pz: x in row, the row's items data of any depth. -/
namespace FL
open PySem PySem.Spec PyProof.Rows L2
def inK : D → D → Option D
  | x, .lst ys => if plain 64 x && plain 64 (.lst ys) then some (.bl (ys.any fun y => eqv y x)) else none
  | x, .tup ys => if plain 64 x && plain 64 (.tup ys) then some (.bl (ys.any fun y => eqv y x)) else none
  | x, y => inD1 x y
def ninK : D → D → Option D
  | x, .lst ys => if plain 64 x && plain 64 (.lst ys) then some (.bl (!ys.any fun y => eqv y x)) else none
  | x, .tup ys => if plain 64 x && plain 64 (.tup ys) then some (.bl (!ys.any fun y => eqv y x)) else none
  | x, y => ninD1 x y
mutual
theorem plain_up : ∀ {n : Nat} {d : D}, plain n d = true → plain (n + 1) d = true
  | _, .non, _ => rfl
  | _, .bl _, _ => rfl
  | _, .int _, _ => rfl
  | _, .str _, _ => rfl
  | _, .lst xs, h => by rw [plain] at h ⊢; exact plains_up h
  | _, .tup xs, h => by rw [plain] at h ⊢; exact plains_up h
  | _, .dK _ _, h => by simp [plain] at h
  | _, .dT _ _, h => by simp [plain] at h
  | _, .ins _ _ _, h => by simp [plain] at h
  | _, .scr _, h => by simp [plain] at h
  | _, .exn _, h => by simp [plain] at h
theorem plains_up : ∀ {n : Nat} {ds : List D}, plains n ds = true → plains (n + 1) ds = true
  | 0, _, h => by simp [plains] at h
  | _ + 1, [], _ => rfl
  | _ + 1, d :: ds, h => by
    rw [plains, Bool.and_eq_true] at h ⊢
    exact ⟨plain_up h.1, plains_up h.2⟩
end
theorem any_py {x : D} (hx : plain 64 x = true) : ∀ (ys : List D), plains 64 ys = true → (pys ys).any (fun z => PyData.eqv z (py x)) = ys.any fun y => eqv y x
  | [], _ => rfl
  | y :: ys, h => by
    rw [plains, Bool.and_eq_true] at h
    rw [pys, List.any_cons, List.any_cons, any_py hx ys h.2, eqv_py 64 y x (plain_up h.1) hx]
section
variable {X : Cx}
theorem inK_ok (hu : X.A.units + 65 < cLine) : OpD X (compareOp .In) inK := by
  rintro pins s σ H x y v u Q I rx ry ⟨G, d, e, c, gh, r1, r2, hg, k⟩
  cases e with
  | lst ys =>
    change (if _ then _ else _) = _ at hg
    split at hg
    · rename_i p; cases hg
      rw [Bool.and_eq_true] at p
      refine op_inD hu pins s σ H x y v u Q I rx ry ⟨py d, pys ys, py_dp gh 64 d x p.1 r1, py_dp gh 64 _ y p.2 r2, shaped_of p.1 r1, shaped_of p.2 r2, ?_⟩
      rw [any_py p.1 ys p.2]
      exact k _ _ _ (Stp.refl gh) rfl
    · cases hg
  | tup ys =>
    change (if _ then _ else _) = _ at hg
    split at hg
    · rename_i p; cases hg
      rw [Bool.and_eq_true] at p
      obtain ⟨as, h1⟩ := Dp.reads I (py d) x v (py_dp gh 64 d x p.1 r1) rx
      obtain ⟨bs, h2⟩ := Dp.reads I (py (.tup ys)) y u (py_dp gh 64 _ y p.2 r2) ry
      have sd := shaped_of p.1 r1
      refine SeqAt.in_tuple_reads h2 h1 (SeqAt.canLay_of_shaped (shaped_of p.2 r2)) (SeqAt.canLay_of_shaped sd) (room_in_shaped sd hu) ⟨.bl _, H, I, rfl, ?_⟩
      rw [any_py p.1 ys p.2]
      exact k _ _ _ (Stp.refl gh) rfl
    · cases hg
  | _ => exact in_ok (by omega) pins s σ H x y v u Q I rx ry ⟨G, d, _, c, gh, r1, r2, hg, k⟩
theorem ninK_ok (hu : X.A.units + 65 < cLine) : OpD X (compareOp .NotIn) ninK := by
  rintro pins s σ H x y v u Q I rx ry ⟨G, d, e, c, gh, r1, r2, hg, k⟩
  cases e with
  | lst ys =>
    change (if _ then _ else _) = _ at hg
    split at hg
    · rename_i p; cases hg
      rw [Bool.and_eq_true] at p
      refine op_notInD hu pins s σ H x y v u Q I rx ry ⟨py d, pys ys, py_dp gh 64 d x p.1 r1, py_dp gh 64 _ y p.2 r2, shaped_of p.1 r1, shaped_of p.2 r2, ?_⟩
      rw [any_py p.1 ys p.2]
      exact k _ _ _ (Stp.refl gh) rfl
    · cases hg
  | tup ys =>
    change (if _ then _ else _) = _ at hg
    split at hg
    · rename_i p; cases hg
      rw [Bool.and_eq_true] at p
      obtain ⟨as, h1⟩ := Dp.reads I (py d) x v (py_dp gh 64 d x p.1 r1) rx
      obtain ⟨bs, h2⟩ := Dp.reads I (py (.tup ys)) y u (py_dp gh 64 _ y p.2 r2) ry
      have sd := shaped_of p.1 r1
      refine SeqAt.notIn_tuple_reads h2 h1 (SeqAt.canLay_of_shaped (shaped_of p.2 r2)) (SeqAt.canLay_of_shaped sd) (room_in_shaped sd hu) ⟨.bl _, H, I, rfl, ?_⟩
      rw [any_py p.1 ys p.2]
      exact k _ _ _ (Stp.refl gh) rfl
    · cases hg
  | _ => exact notIn_ok (by omega) pins s σ H x y v u Q I rx ry ⟨G, d, _, c, gh, r1, r2, hg, k⟩
end
end FL
/-! The functional layer, part Qa: a list or a tuple the other way round. -/
namespace HT
open PySem PyProof.Rows
open PySem.SeqAt
open PySem.AutoSeq1 (wpAny_loadPart')
open PySem.MeetsSeq PySem.MeetsSeq2 PySem.MeetsSeq3
section
variable {prog : Program} {w : World} {A : Around} {E : Value → Shared → Prop} {s : Shared}
theorem sliceApplied_rev {sl : Addr} {vl vu vs : Value} {n : Nat} {Q : Int × Int × Nat → Shared → Prop} (hs : s.heap.IsSliceOf sl vl vu vs) (pl : IsPart vl none) (pu : IsPart vu none) (ps : IsPart vs (some (-1)))
    (h : Q ((n : Int) - 1, -1, n) s) : wpAny (model prog w) A (Builtin.Slice.sliceApplied (.ref sl) (pure (n : Int))) Q E s := by
  obtain ⟨os, hos, hcs, hds⟩ := id hs
  unfold Builtin.Slice.sliceApplied Builtin.Slice.sliceFields
  refine wpAny_bind (wpAny_bind (wpAny_field hos hds (x := vl) rfl (wpAny_bind (wpAny_field hos hds (x := vu) rfl (wpAny_bind (wpAny_field hos hds (x := vs) rfl (wpAny_pure ?_)))))))
  refine wpAny_bind (slicePart_ ps ?_)
  show wpAny _ _ (if ((-1 : Int) == 0) = true then _ else _) _ _ s
  rw [if_neg (by decide)]
  refine wpAny_bind (slicePart_ pl (wpAny_bind (slicePart_ pu (wpAny_bind (wpAny_pure ?_)))))
  have e1 : Builtin.Slice.sliceAdjust none none (-1) (n : Int) = ((n : Int) - 1, -1) := rfl
  have e2 : Builtin.Slice.slicePlaces ((n : Int) - 1) (-1) (-1) = n := by
    unfold Builtin.Slice.slicePlaces
    rw [if_neg (by decide)]
    split
    · rw [show (-(-1) : Int) = 1 by decide, Int.ediv_one]; omega
    · omega
  show wpAny _ _ (match Builtin.Slice.sliceAdjust none none (-1) (n : Int) with | (lo, hi) => pure (lo, (-1 : Int), Builtin.Slice.slicePlaces lo hi (-1))) _ _ s
  rw [e1]
  show wpAny _ _ (pure ((n : Int) - 1, (-1 : Int), Builtin.Slice.slicePlaces ((n : Int) - 1) (-1) (-1))) _ _ s
  rw [e2]
  exact wpAny_pure h
theorem fm_congr {α β : Type} {f g : α → Option β} : ∀ {l : List α}, (∀ x ∈ l, f x = g x) → l.filterMap f = l.filterMap g
  | [], _ => rfl
  | x :: l, h => by
    rw [List.filterMap_cons, List.filterMap_cons, h x List.mem_cons_self, fm_congr fun y hy => h y (List.mem_cons_of_mem _ hy)]
theorem pick_rev (xs : Array Value) : ((List.range xs.size).filterMap fun (m : Nat) => xs[(((xs.size : Int) - 1) + (m : Int) * (-1)).toNat]?).toArray = xs.toList.reverse.toArray := by
  have h := PySem.W.krv_all xs
  rw [← h, ← List.filterMap_reverse, ← PySem.W.krv_range, List.filterMap_map]
  congr 1
  refine fm_congr fun m hm => ?_
  have := List.mem_range.mp hm
  show xs[_]? = xs[xs.size - 1 - m]?
  congr 1
  omega
theorem getItem_tuple_rev {t sl : Addr} {items : Array Value} {vl vu vs : Value} {Q : Value → Shared → Prop} (ht : IsTup s.heap t items) (hs : s.heap.IsSliceOf sl vl vu vs) (pl : IsPart vl none) (pu : IsPart vu none) (ps : IsPart vs (some (-1)))
    (h : Q (.ref s.heap.objs.size) { s with heap := s.heap.push { cls := .type "tuple", data := .seq items.toList.reverse.toArray } })
    (hsz : items.size ≤ sizeLine) : wpAny (model prog w) A (getItem (.ref t) (.ref sl)) Q E s := by
  have htake : sizeOk (.seq items.toList.reverse.toArray) := by
    show items.toList.reverse.toArray.size ≤ sizeLine
    rw [List.size_toArray, List.length_reverse, Array.length_toList]
    exact hsz
  obtain ⟨os, hos, hcs, hds⟩ := id hs
  have hTs : s.TypeIs (.ref sl) "slice" := ⟨os, hos, hcs⟩
  unfold getItem
  try with_reducible refine wpAny_holding ?_
  first | refine wpAny_bind (wpAny_pure ?_) | skip
  refine wpAny_bind (wpAny_sequenceKey ht.typeIs (by decide) ?_)
  refine wpAny_bind (wpAny_callSpecial?_slot (name := Str.ofString "__getitem__") ht.typeIs PyProof.Rows.slot_tuple_getitem
    (wpAny_call_entry PyProof.Rows.slot_tuple_getitem ht.typeIs entry_tuple_getitem ?_ (args_tuple_getitem _ _)))
  show wpAny _ _ (Builtin.Tuple.tupleItemsOf (.ref t) >>= _) _ _ s
  refine wpAny_bind (tupleItemsOf_ ht ?_)
  refine wpAny_bind (wpAny_typeOf hTs ?_)
  rw [if_pos (by decide)]
  refine wpAny_bind (sliceApplied_rev hs pl pu ps ?_)
  have hno : ¬ ((((items.size : Int) - 1) == 0 && (-1 : Int) == 1 && items.size == items.size) = true) := by
    intro q
    rw [Bool.and_eq_true, Bool.and_eq_true] at q
    exact absurd q.1.2 (by decide)
  show wpAny _ _ (if (((items.size : Int) - 1) == 0 && (-1 : Int) == 1 && items.size == items.size) = true then _ else _) _ _ s
  rw [if_neg hno, pick_rev]
  first
    | exact wpAny_bind (m := Builtin.Tuple.tupleExact _) (wpAny_newObj_type (wpAny_pure ⟨_, rfl, wpAny_pure h⟩) htake)
    | exact wpAny_bind (m := Builtin.Tuple.tupleExact _) (wpAny_newObj_type (wpAny_bind (wpAny_pure (wpAny_pure ⟨_, rfl, wpAny_pure h⟩))) htake)
    | exact wpAny_bind (wpAny_bind (m := Builtin.Tuple.tupleExact _) (wpAny_newObj_type (wpAny_pure (wpAny_pure ⟨_, rfl, wpAny_pure h⟩)) htake))
    | exact wpAny_bind (wpAny_bind (m := Builtin.Tuple.tupleExact _) (wpAny_newObj_type (wpAny_pure ⟨_, rfl, wpAny_pure h⟩) htake))
end
end HT
namespace L2
open PySem PySem.Spec PyProof.Rows
section
variable {X : Cx}
def tRevU (K : PySem.W.Frag) (te : TE) : TE := fun σ H Q => te σ H fun x H1 => ∃ a xs, x = .ref a ∧ ((SqL K H1 a xs ∧ ∀ p, H1 p = none → Q (.ref p) (upd H1 p (.lst xs.reverse))) ∨ (SqT K H1 a xs ∧ ∀ p, H1 p = none → Q (.ref p) (upd H1 p (.tup xs.reverse))))
theorem pe_revU {e : Expr} {te : TE} {k : Nat} {p1 p2 p3 pos : Pos} (he : PE X e te) : PE X (.Subscript e (.Slice none none (some (.UnaryOp .USub (.Constant (.int 1) k p1) p2)) p3) pos) (tRevU X.K te) := by
  refine ⟨fun pins s σ H Q I h => ?_⟩
  refine Subscript_ (thn (he.run pins s σ H _ I h) fun v s1 ⟨x, H1, I1, r1, q1⟩ => ?_)
  obtain ⟨a, xs, ex, hx⟩ := q1
  subst ex
  cases r1
  have hst : PO X (some (.UnaryOp .USub (.Constant (.int 1) k p1) p2)) (tPart (tUn (rU fun i => .int (-i)) (tC (.int 1)))) := po_some (pe_un un_neg pe_int)
  refine wpAny_Slice (thn (po_none.run pins s1 σ H1 (fun o H2 => o = none ∧ H2 = H1) I1 ⟨rfl, rfl⟩) fun vl s2 ⟨l, H2, I2, pl, el, e2⟩ => ?_)
  subst el e2
  refine thn (po_none.run pins s2 σ H2 (fun o H3 => o = none ∧ H3 = H2) I2 ⟨rfl, rfl⟩) fun vu s3 ⟨u, H3, I3, pu, eu, e3⟩ => ?_
  subst eu e3
  refine thn (hst.run pins s3 σ H3 (fun o H4 => o = some (-1) ∧ H4 = H3) I3 ⟨1, rfl, -1, rfl, rfl, rfl⟩) fun vs s4 ⟨o, H4, I4, ps, eo, e4⟩ => ?_
  subst eo e4
  have I5 : Inv X pins σ H4 { s4 with heap := s4.heap.push { cls := .type "slice", data := .fields #[vl, vu, vs] } } := I4.kept (t' := s4.toks) fun b ob q => Heap.get?_push_of_some _ q
  show wpAny (model X.prog X.w) X.A (subscriptTail e (.Slice none none (some (.UnaryOp .USub (.Constant (.int 1) k p1) p2)) p3) (.ref a) (.ref s4.heap.objs.size)) (EP X pins σ Q) X.xe { s4 with heap := s4.heap.push { cls := .type "slice", data := .fields #[vl, vu, vs] } }
  rcases hx with ⟨hx, q⟩ | ⟨hx, q⟩
  · obtain ⟨its, r, ht, hz⟩ := I5.list hx
    have hlen := r.length
    refine tail_any (ops := [.ref a, .ref s4.heap.objs.size]) ht.isList.typeIs (PySem.slot_list_getitem.lookup) ?_ (by with_unfolding_all rfl)
    refine wpAny_getItem_list_slice ht.isList (Heap.IsSliceOf.new _ vl vu vs) pl pu ps (by decide) ?_ (by rw [List.size_toArray]; omega)
    rw [PySem.W.krv_pick]
    refine ⟨.ref _, _, I5.laid (t' := s4.toks) (o := .lst xs.reverse) (fun b ob q => Heap.get?_push_of_some _ q) (Nat.le_refl _) ?_, rfl, q _ (I5.hok.fresh (Nat.le_refl _))⟩
    exact ⟨by rw [List.length_reverse]; exact hz, _, 0, r.reverse, Heap.get?_push_size _ rfl⟩
  · obtain ⟨its, r, ht, hz⟩ := I5.tuple hx
    have hlen := r.length
    refine tail_any (ops := [.ref a, .ref s4.heap.objs.size]) ht.typeIs (PyProof.Rows.slot_tuple_getitem.lookup) ?_ (by with_unfolding_all rfl)
    refine HT.getItem_tuple_rev ht (Heap.IsSliceOf.new _ vl vu vs) pl pu ps ?_ (by rw [List.size_toArray]; omega)
    refine ⟨.ref _, _, I5.laid (t' := s4.toks) (o := .tup xs.reverse) (fun b ob q => Heap.get?_push_of_some _ q) (Nat.le_refl _) ?_, rfl, q _ (I5.hok.fresh (Nat.le_refl _))⟩
    exact ⟨by rw [List.length_reverse]; exact hz, _, r.reverse, IsTup.new _ _⟩
end
end L2
namespace FL
open PySem PySem.Spec PyProof.Rows L2
section
variable {X : Cx} {W : WW} {a : Expr} {fa : En → Res D} {p1 p2 p3 pos : Pos}
def revU : D → Option D
  | .lst ds => some (.lst ds.reverse)
  | .tup ds => some (.tup ds.reverse)
  | _ => none
theorem EF.revU {k : Nat} (ha : EF X W a fa) : EF X W (.Subscript a (.Slice none none (some (.UnaryOp .USub (.Constant (.int 1) k p1) p2)) p3) pos) (op1 FL.revU fa) := ⟨fun B => PE.mono (pe_revU (ha.run B)) fun σ H Q ⟨G, ρ, r, h⟩ =>
  lift.next (rel := relD X.K X.mg) (g := fun x _ => FL.ofO (FL.revU x)) later_D r h fun d x G1 H1 r1 s1 q1 w1 => by
    cases d <;> first | exact w1.elim | skip
    · obtain ⟨p, vs, rfl, l, e1, q2⟩ := q1.lst
      exact ⟨p, vs, rfl, .inl ⟨SqL.of (r1.gh _ _ e1), fun q hq => Wr.ok (rel := relD X.K X.mg) (k := fun _ v _ H' => Q v H') w1 (Stp.new r1.gh hq) (R.newL (r1.gh.free hq) (by rw [List.length_reverse]; exact l) q2.rev)⟩⟩
    · obtain ⟨p, vs, rfl, l, e1, q2⟩ := q1.tup
      exact ⟨p, vs, rfl, .inr ⟨SqT.of (r1.gh _ _ e1), fun q hq => Wr.ok (rel := relD X.K X.mg) (k := fun _ v _ H' => Q v H') w1 (Stp.new r1.gh hq) (R.newT (r1.gh.free hq) (by rw [List.length_reverse]; exact l) q2.rev)⟩⟩⟩
end
end FL
/-! The functional layer, part Qb: x[k], x an owned dict by tuples; a fresh thing lent to a def and dropped. -/
namespace FL
open PySem PySem.Spec PyProof.Rows L2
section
variable {X : Cx} {W : WW} {b : Expr} {fi : En → Res D} {x : Str} {pos ppos : Pos}
def dixV (t : OT) (k : D) : Option D := match t, k with
  | .dT ks ts, .tup k => (keysOf k).bind fun q => (keyIx ks q).bind fun j => match ts[j]? with
    | some (.d x) => some x
    | _ => none
  | t, k => dixT t k
def dixW (s : Nat) (fi : En → Res D) (ρ : En) : Res D := match ρ[s]? with
  | some (some t) => (fi ρ).bind fun k => ofO (dixV t k)
  | _ => .bad
theorem EF.dixW (s : Nat) (hu : X.A.units + 64 < cLine) (hi : EF X W b fi) (hN : X.N[s]? = some x := by rfl) (hv : Vis X.env.scope x := by first | exact Or.inl rfl | exact Or.inr (Or.inl rfl) | exact Or.inr (Or.inr rfl)) (hd : (x == ("__debug__" : Str)) = false := by decide) (hcd : (x == ("__classdict__" : Str)) = false := by decide)
    (hs : PlainIx b := by intro _ _; rfl) : EF X W (.Subscript (.Name x ppos) b pos) (dixW s fi) := ⟨fun B => PE.mono (pe_ix (ix_dict hu) (pe_var (i := s) hN hv hd hcd) (hi.run B) hs) fun σ H Q ⟨G, ρ, r, h⟩ => by
  unfold FL.dixW at h
  split at h
  · rename_i t es
    obtain ⟨v, fp, hv, ro⟩ := r.slot es
    refine ⟨v, hv, lift.next (rel := relD X.K X.mg) (g := fun k _ => FL.ofO (dixV t k)) later_D r h fun d y G1 H1 r1 s1 q1 w1 => ?_⟩
    cases ed : dixV t d with
    | none => rw [ed] at w1; exact w1.elim
    | some z =>
      rw [ed] at w1
      unfold dixV at ed
      split at ed
      · rename_i ks ts k
        obtain ⟨q, hq, ed⟩ := Option.bind_eq_some_iff.mp ed
        obtain ⟨j, hj, ed⟩ := Option.bind_eq_some_iff.mp ed
        split at ed
        · rename_i x' hx
          cases ed
          obtain ⟨v1, fp1, hv1, ro1⟩ := r1.slot es
          rw [hv] at hv1
          cases hv1
          obtain ⟨a, vs, fs, rfl, rfl, hl, hH, ros⟩ := ro1
          obtain ⟨w, hw, hval⟩ := keyIx_ok hj (by rw [ros.len]; exact hl)
          obtain ⟨w', f1, fj, f2, hw', _, ro', _⟩ := ros.at hx
          rw [hw] at hw'
          cases hw'
          obtain ⟨b, us, rfl, _, e2, q2⟩ := q1.tup
          have eu := keysOf_ok q2 hq
          exact ⟨a, w, rfl, .inr ⟨_, q, b, .inl hH, rfl, by rw [← eu]; exact r1.gh _ _ e2, hval.symm⟩, Wr.ok w1 (Stp.refl r1.gh) ro'.2⟩
        · cases ed
      · cases t <;> first | cases ed | skip
        rename_i ks ts _
        unfold dixT at ed
        dsimp only at ed
        obtain ⟨q, hq, ed⟩ := Option.bind_eq_some_iff.mp ed
        obtain ⟨j, hj, ed⟩ := Option.bind_eq_some_iff.mp ed
        split at ed
        · rename_i x' hx
          cases ed
          obtain ⟨v1, fp1, hv1, ro1⟩ := r1.slot es
          rw [hv] at hv1
          cases hv1
          obtain ⟨a, vs, fs, rfl, rfl, hl, hH, ros⟩ := ro1
          obtain ⟨w, hw, hval⟩ := keyIx_ok hj (by rw [ros.len]; exact hl)
          obtain ⟨w', f1, fj, f2, hw', _, ro', _⟩ := ros.at hx
          rw [hw] at hw'
          cases hw'
          exact ⟨a, w, rfl, .inl ⟨_, q, .inl hH, keyOf_ok q1 hq, hval.symm⟩, Wr.ok w1 (Stp.refl r1.gh) ro'.2⟩
        · cases ed
  · exact h.elim⟩
end
/-- what was lent does not come back -/
def dropG (F : List OT → ResG) (ts : List OT) : ResG := match F ts with
  | .ok r _ => .ok r []
  | .ex c _ => .ex c []
  | .bad => .bad
theorem pick_none {α : Type} : ∀ {m : List Bool} (vs : List α), (∀ b ∈ m, b = false) → pick m vs = []
  | [], vs, _ => by cases vs <;> rfl
  | b :: m, [], _ => by cases b <;> rfl
  | b :: m, v :: vs, h => by
    rw [h b List.mem_cons_self]
    exact pick_none vs fun c hc => h c (List.mem_cons_of_mem _ hc)
theorem CalG.drop {P : Program} {w : World} {K : PySem.W.Frag} {mg : Str → Option Value} {base : Heap} {CX : CXT} {on : Prop} {x : Str} {k : Nat} {m m' : List Bool} {F : List OT → ResG} (c : CalG P w K mg base CX on x k m F) (hm : ∀ b ∈ m', b = false) : CalG P w K mg base CX on x k m' (dropG F) := by
  obtain ⟨f, fd, ps, hf, h1, h2, h3⟩ := c.ex
  refine ⟨f, fd, ps, hf.imp fun vs H Q E ⟨G, ts, fp, a1, a2, a3, a4, h⟩ => ⟨G, ts, fp, a1, a2, a3, a4, ?_⟩, h1, h2, h3⟩
  unfold dropG at h
  cases e : F ts with
  | ok r outs =>
    rw [e] at h
    intro v G' H' fr fo o1 o2 o3 o4 rt ro nd at_
    refine h v G' H' fr [] o1 o2 o3 o4 rt (by rw [pick_none vs hm]; exact ⟨rfl, rfl⟩) (by rw [List.append_nil]; exact (List.nodup_append.mp nd).1) (fun p hp => at_ p ?_)
    rw [List.append_nil] at hp
    exact List.mem_append_left _ hp
  | ex c outs =>
    rw [e] at h
    refine ⟨h.1, fun G' H' fo cls dd o1 o2 o3 o4 ro nd at_ q => ?_⟩
    exact h.2 G' H' [] cls dd o1 o2 o3 o4 (by rw [pick_none vs hm]; exact ⟨rfl, rfl⟩) List.nodup_nil (fun p hp => absurd hp (by simp)) q
  | bad => rw [e] at h; exact h.elim
/-- what comes is frozen -/
def fzX (f : En → ResX) (ρ : En) : ResX := match f ρ with
  | .ok t ρ1 => .ok (.d (fz t)) ρ1
  | .ex c ρ1 => .ex c ρ1
  | .bad => .bad
theorem EX.fz {X : Cx} {W : WW} {e : Expr} {f : En → ResX} (h : EX X W e f) : EX X W e (fzX f) := ⟨fun B => PE.mono (h.run B) fun σ H Q ⟨G, ρ, r, w⟩ => ⟨G, ρ, r, by
  unfold FL.fzX at w
  cases e1 : f ρ with
  | bad => rw [e1] at w; exact w
  | ex c ρ1 => rw [e1] at w; exact w
  | ok t ρ1 =>
    rw [e1] at w
    intro v G1 H1 r1
    obtain ⟨G2, r2, q⟩ := r1.frozen
    exact w v G2 H1 (r2.val q)⟩⟩
end FL
/-! The functional layer, part Qc: an expression that changes something, where the environment owns nothing, is one that computes a datum. -/
namespace FL
open PySem PySem.Spec PyProof.Rows L2
def allF (ρ : En) : Bool := ρ.all fun o => match o with
  | some (.d _) => true
  | none => true
  | _ => false
def dfX (f : En → ResX) (ρ : En) : Res D := if allF ρ = true then (match f ρ with
  | .ok t _ => .ok (fz t)
  | .ex c _ => .ex c
  | .bad => .bad) else .bad
theorem EF.ofX {X : Cx} {W : WW} {e : Expr} {f : En → ResX} (h : EX X W e f) : EF X W e (dfX f) := ⟨fun B => ⟨fun pins s σ H Q I ⟨G, ρ, r, w⟩ => by
  unfold dfX at w
  by_cases ha : allF ρ = true
  · rw [if_pos ha] at w
    have rep : Rep X.K X.mg ⟨H, G, []⟩ G H σ ρ := ⟨⟨r.gh, Same.refl _, Same.refl _, fun _ _ => rfl, fun q hq => (by cases hq)⟩, r.len, fun _ => [], ⟨fun i t e => (by
      have := List.all_eq_true.mp ha (some t) (List.mem_of_getElem? e)
      cases t with
      | d x =>
        obtain ⟨v, a, b⟩ := r.frozen e
        exact ⟨v, a, rfl, b⟩
      | _ => cases this), fun _ => List.nodup_nil, fun i p hp => (by cases hp), fun i j p _ hp => (by cases hp)⟩⟩
    have stp : ∀ {G' H' : Hp} {ρ' : En}, Rep X.K X.mg ⟨H, G, []⟩ G' H' σ ρ' → Stp G H G' H' := fun q => ⟨q.g.oh, q.g.g0, q.g.gh, q.g.og⟩
    refine (h.run ⟨H, G, []⟩).run pins s σ H Q I ⟨G, ρ, rep, ?_⟩
    cases e1 : f ρ with
    | bad => rw [e1] at w; exact w
    | ex c ρ1 =>
      rw [e1] at w
      exact ⟨w.1, fun G' H' cls dd q z => w.2 G' H' cls dd (stp q) z⟩
    | ok t ρ1 =>
      rw [e1] at w
      intro v G' H' q
      obtain ⟨G2, q2, z⟩ := q.frozen
      exact w v G2 H' (stp q2) z
  · rw [if_neg ha] at w
    exact w.elim⟩⟩
end FL
/-! Evaluation of the functional layer's denotations. -/
namespace FL
open PySem PySem.Spec PyProof.Rows L2
/-! ### loops -/
theorem forL_inv {g : D → En → Option En} {body : En → Flw} (P : Nat → En → Prop) : ∀ {xs : List D} {ρ : En} (k : Nat), P k ρ →
    (∀ i x ρ, xs[i]? = some x → P (k + i) ρ → ∃ ρ1, g x ρ = some ρ1 ∧ ∃ ρ2, body ρ1 = .nx ρ2 ∧ P (k + i + 1) ρ2) → ∃ ρ', forL g body xs ρ = .nx ρ' ∧ P (k + xs.length) ρ'
  | [], ρ, k, h, _ => ⟨ρ, rfl, h⟩
  | x :: xs, ρ, k, h, hs => by
    obtain ⟨ρ1, h1, ρ2, h2, h3⟩ := hs 0 x ρ rfl h
    obtain ⟨ρ', h4, h5⟩ := forL_inv P (xs := xs) (ρ := ρ2) (k + 1) h3 fun i y ρ hy hp => by
      have := hs (i + 1) y ρ (by simpa using hy) (by rw [show k + (i + 1) = k + 1 + i by omega]; exact hp)
      rw [show k + (i + 1) + 1 = k + 1 + i + 1 by omega] at this
      exact this
    refine ⟨ρ', ?_, by rw [List.length_cons, show k + (xs.length + 1) = k + 1 + xs.length by omega]; exact h5⟩
    unfold forL
    rw [h1]
    dsimp only
    rw [h2]
    exact h4
/-- a comprehension -/
theorem lcL_enc {α : Type} {g : D → En → Option En} {tt : En → Res Bool} {fe : En → Res OT} {ρ : En} (enc : α → D) (p : α → Bool) (q : α → OT) : ∀ {ys : List α}, (∀ a ∈ ys, ∃ ρ1, g (enc a) ρ = some ρ1 ∧ tt ρ1 = .ok (p a) ∧ (p a = true → fe ρ1 = .ok (q a))) →
    lcL g tt fe ρ (ys.map enc) = some ((ys.filter p).map q)
  | [], _ => rfl
  | y :: ys, h => by
    obtain ⟨ρ1, h1, h2, h3⟩ := h y List.mem_cons_self
    have ih := lcL_enc enc p q (ys := ys) fun a ha => h a (List.mem_cons_of_mem _ ha)
    rw [List.map_cons]
    unfold lcL
    rw [h1, Option.bind_some, h2]
    cases hp : p y with
    | true =>
      dsimp only
      rw [h3 hp, ih, List.filter_cons_of_pos hp]
      rfl
    | false =>
      dsimp only
      rw [ih, List.filter_cons_of_neg (by rw [hp]; exact Bool.false_ne_true)]
/-! ### what stands for what -/
def dI (i : Int) : D := .int i
def lI (ns : List Int) : D := .lst (ns.map .int)
def tI (ns : List Int) : D := .tup (ns.map .int)
def lB (bs : List Bool) : D := .lst (bs.map .bl)
@[simp] theorem bls_map (bs : List Bool) : bls (bs.map .bl) = some bs := by
  induction bs with
  | nil => rfl
  | cons b bs ih => rw [List.map_cons, bls, ih]; rfl
@[simp] theorem ints_map (bs : List Int) : intsOf (bs.map .int) = some bs := by
  induction bs with
  | nil => rfl
  | cons b bs ih => rw [List.map_cons, intsOf, ih]; rfl
@[simp] theorem strs_map (bs : List Str) : strsOf (bs.map .str) = some bs := by
  induction bs with
  | nil => rfl
  | cons b bs ih => rw [List.map_cons, strsOf, ih]; rfl
@[simp] theorem fzs_d (ds : List D) : fzs (ds.map .d) = ds := by
  induction ds with
  | nil => rfl
  | cons b bs ih => rw [List.map_cons, fzs, ih]; rfl
theorem fz_d (d : D) : fz (.d d) = d := rfl
theorem fz_lst (ts : List OT) : fz (.lst ts) = .lst (fzs ts) := rfl
@[simp] theorem fzs_map {α : Type} (f : α → D) (l : List α) : fzs (l.map fun a => .d (f a)) = l.map f := by
  rw [← fzs_d (l.map f), List.map_map]; rfl
theorem atI_in {α : Type} {xs : List α} {i : Int} {x : α} (h0 : 0 ≤ i) (h : xs[i.toNat]? = some x) : L2.atI xs i = some x := by
  unfold L2.atI ixN
  have hl := (List.getElem?_eq_some_iff.mp h).1
  rw [if_pos h0, if_pos (by omega)]
  exact h
theorem atI_neg {α : Type} {xs : List α} {i : Int} {x : α} (h0 : i < 0) (h : xs[(i + xs.length).toNat]? = some x) (h1 : -(xs.length : Int) ≤ i) : L2.atI xs i = some x := by
  unfold L2.atI ixN
  rw [if_neg (by omega), if_pos h1]
  exact h
/-! ### expressions, by simp -/
section
variable {ρ : En} {f h fa fb fc : En → Res D} {fs : En → Res (List D)} {g g' : D → D → Option D} {x y : D}
@[simp] theorem ev_c (d : D) : c d ρ = .ok d := rfl
@[simp] theorem ev_v0 : v 0 (some (.d x) :: ρ) = .ok x := rfl
@[simp] theorem ev_v1 {a : Option OT} : v 1 (a :: some (.d x) :: ρ) = .ok x := rfl
@[simp] theorem ev_v2 {a b : Option OT} : v 2 (a :: b :: some (.d x) :: ρ) = .ok x := rfl
@[simp] theorem ev_v3 {a b c : Option OT} : v 3 (a :: b :: c :: some (.d x) :: ρ) = .ok x := rfl
@[simp] theorem ev_v4 {a b c d : Option OT} : v 4 (a :: b :: c :: d :: some (.d x) :: ρ) = .ok x := rfl
@[simp] theorem ev_v5 {a b c d e : Option OT} : v 5 (a :: b :: c :: d :: e :: some (.d x) :: ρ) = .ok x := rfl
theorem ev_vS {a : Option OT} (i : Nat) : v (i + 1) (a :: ρ) = v i ρ := rfl
@[simp] theorem ev_v6 {a b c d e a' : Option OT} : v 6 (a :: b :: c :: d :: e :: a' :: some (.d x) :: ρ) = .ok x := rfl
@[simp] theorem ev_v7 {a b c d e a' b' : Option OT} : v 7 (a :: b :: c :: d :: e :: a' :: b' :: some (.d x) :: ρ) = .ok x := rfl
@[simp] theorem ev_v8 {a b c d e a' b' c' : Option OT} : v 8 (a :: b :: c :: d :: e :: a' :: b' :: c' :: some (.d x) :: ρ) = .ok x := rfl
@[simp] theorem ev_v9 {a b c d e a' b' c' d' : Option OT} : v 9 (a :: b :: c :: d :: e :: a' :: b' :: c' :: d' :: some (.d x) :: ρ) = .ok x := rfl
@[simp] theorem ev_op2 : op2 g f h ρ = (f ρ).bind fun x => (h ρ).bind fun y => ofO (g x y) := rfl
@[simp] theorem ev_op1 {g : D → Option D} : op1 g f ρ = (f ρ).bind fun x => ofO (g x) := rfl
@[simp] theorem ev_cal {α : Type} {g : List D → Option α} : cal g fs ρ = (fs ρ).bind fun xs => ofO (g xs) := rfl
@[simp] theorem ev_nil : nilA ρ = .ok [] := rfl
@[simp] theorem ev_cons : consA f fs ρ = (f ρ).bind fun d => (fs ρ).bind fun ds => .ok (d :: ds) := rfl
@[simp] theorem ev_tst : tst f ρ = (f ρ).bind asB := rfl
@[simp] theorem ev_asB (b : Bool) : asB (.bl b) = .ok b := rfl
@[simp] theorem ev_fzE {f : En → Res OT} : fzE f ρ = (f ρ).bind fun t => .ok (fz t) := rfl
@[simp] theorem ev_ofE : ofE f ρ = (f ρ).bind fun d => .ok (.d d) := rfl
@[simp] theorem ev_call {F : List D → Res OT} : call F fs ρ = (fs ρ).bind F := rfl
@[simp] theorem ev_yes : yes ρ = .ok true := rfl
@[simp] theorem ev_andT {s t : En → Res Bool} : andT s t ρ = (s ρ).bind fun b => if b = true then t ρ else .ok false := rfl
@[simp] theorem ev_orT {s t : En → Res Bool} : orT s t ρ = (s ρ).bind fun b => if b = true then .ok true else t ρ := rfl
@[simp] theorem ev_notT {t : En → Res Bool} : notT t ρ = (t ρ).bind fun b => .ok (!b) := rfl
@[simp] theorem ev_andD : andD fa fb ρ = (fa ρ).bind fun d => (asB d).bind fun b => if b = true then fb ρ else .ok (.bl false) := rfl
@[simp] theorem ev_orD : orD fa fb ρ = (fa ρ).bind fun d => (asB d).bind fun b => if b = true then .ok (.bl true) else fb ρ := rfl
@[simp] theorem ev_notD : notD fa ρ = (fa ρ).bind fun d => (asB d).bind fun b => .ok (.bl (!b)) := rfl
@[simp] theorem ev_it1 {g : D → Option (List D)} : it1 g f ρ = (f ρ).bind fun d => ofO (g d) := rfl
@[simp] theorem ev_itA {g : List D → Option (List D)} : itA g fs ρ = (fs ρ).bind fun d => ofO (g d) := rfl
@[simp] theorem ev_noP : noP ρ = .ok none := rfl
@[simp] theorem ev_part : part f ρ = (f ρ).bind fun d => (asI d).bind fun i => .ok (some i) := rfl
@[simp] theorem ev_asI (i : Int) : asI (.int i) = .ok i := rfl
@[simp] theorem ev_sli {fl fh : En → Res (Option Int)} : sli fa fl fh ρ = (fa ρ).bind fun d => (fl ρ).bind fun lo => (fh ρ).bind fun hi => ofO (slD d lo hi) := rfl
theorem ev_ch (h1 : fa ρ = .ok x) (h2 : fb ρ = .ok y) {b : Bool} (h3 : g x y = some (.bl b)) {z : D} (h4 : fc ρ = .ok z) {b' : Bool} (h5 : g' y z = some (.bl b')) : chD g g' fa fb fc ρ = .ok (.bl (b && b')) := by
  unfold chD
  rw [h1, Res.bind_ok, h2, Res.bind_ok, h3, ofO_some, Res.bind_ok, ev_asB, Res.bind_ok]
  cases b
  · rfl
  · rw [if_pos rfl, h4, Res.bind_ok, h5]; rfl
@[simp] theorem ev_bind_if {α β : Type} {p : Prop} [Decidable p] {r s : Res α} {k : α → Res β} : (if p then r else s).bind k = if p then r.bind k else s.bind k := by split <;> rfl
end
section
variable {i j : Int} {xs ys : List D} {z w : Str} {b : Bool}
@[simp] theorem ev_add : addD (.int i) (.int j) = some (.int (i + j)) := rfl
@[simp] theorem ev_sub : subD (.int i) (.int j) = some (.int (i - j)) := rfl
@[simp] theorem ev_neg : negD (.int i) = some (.int (-i)) := rfl
theorem ev_mul (h : (-(2 ^ 64) < i ∧ i < 2 ^ 64) ∨ (-(2 ^ 64) < j ∧ j < 2 ^ 64)) : mulD (.int i) (.int j) = some (.int (i * j)) := if_pos h
theorem ev_mod (h : 0 < j) : modD (.int i) (.int j) = some (.int (i % j)) := if_pos h
theorem ev_div (h : 0 < j ∧ j < 1073741824) : fdivD (.int i) (.int j) = some (.int (i / j)) := if_pos h
@[simp] theorem ev_lt : ltD (.int i) (.int j) = some (.bl (decide (i < j))) := rfl
@[simp] theorem ev_le : leD (.int i) (.int j) = some (.bl (decide (i ≤ j))) := rfl
@[simp] theorem ev_gt : gtD (.int i) (.int j) = some (.bl (decide (j < i))) := rfl
@[simp] theorem ev_ge : geD (.int i) (.int j) = some (.bl (decide (j ≤ i))) := rfl
@[simp] theorem ev_eqI : eqD (.int i) (.int j) = some (.bl (i == j)) := rfl
@[simp] theorem ev_neI : neD (.int i) (.int j) = some (.bl (!(i == j))) := rfl
@[simp] theorem ev_lenL : lenL [.lst xs] = some (.int xs.length) := rfl
@[simp] theorem ev_lenT : lenL [.tup xs] = some (.int xs.length) := rfl
@[simp] theorem ev_lenC {ns : List Int} : lenL [.scr ns] = some (.int ns.length) := rfl
@[simp] theorem ev_lenS : lenL [.str z] = some (.int z.length) := rfl
@[simp] theorem ev_all {bs : List Bool} : allD [.lst (bs.map .bl)] = some (.bl (bs.all id)) := by unfold allD; dsimp only; rw [bls_map]; rfl
@[simp] theorem ev_any {bs : List Bool} : anyD [.lst (bs.map .bl)] = some (.bl (bs.any id)) := by unfold anyD; dsimp only; rw [bls_map]; rfl
@[simp] theorem ev_sum {bs : List Int} : sumD [.lst (bs.map .int)] = some (.int bs.sum) := by unfold sumD; dsimp only; rw [ints_map]; rfl
theorem ev_all' {α : Type} {l : List α} {f : α → Bool} : allD [.lst (l.map fun a => .bl (f a))] = some (.bl (l.all f)) := by
  have h := ev_all (bs := l.map f)
  rw [List.map_map] at h
  rw [show (l.map fun a => D.bl (f a)) = l.map (D.bl ∘ f) from rfl, h, List.all_map]; rfl
theorem ev_any' {α : Type} {l : List α} {f : α → Bool} : anyD [.lst (l.map fun a => .bl (f a))] = some (.bl (l.any f)) := by
  have h := ev_any (bs := l.map f)
  rw [List.map_map] at h
  rw [show (l.map fun a => D.bl (f a)) = l.map (D.bl ∘ f) from rfl, h, List.any_map]; rfl
@[simp] theorem ev_itL : itQ (.lst xs) = some xs := rfl
@[simp] theorem ev_itT : itQ (.tup xs) = some xs := rfl
theorem ev_ixL {x : D} (h0 : 0 ≤ i) (h : xs[i.toNat]? = some x) : ixD (.lst xs) (.int i) = some x := atI_in h0 h
theorem ev_ixT {x : D} (h0 : 0 ≤ i) (h : xs[i.toNat]? = some x) : ixD (.tup xs) (.int i) = some x := atI_in h0 h
theorem ev_mkL (h : xs.length ≤ 16777216) : mkL xs = some (.lst xs) := if_pos h
theorem ev_mkT (h : xs.length ≤ 16777216) : mkT xs = some (.tup xs) := if_pos h
theorem ev_mkO (h : xs.length ≤ 16777216) : mkO xs = some (.lst (xs.map .d)) := if_pos h
@[simp] theorem ev_tupL : tupleD [.lst xs] = some (.tup xs) := rfl
@[simp] theorem ev_tupT : tupleD [.tup xs] = some (.tup xs) := rfl
@[simp] theorem ev_listL : listO [.lst xs] = some (.lst (xs.map .d)) := rfl
@[simp] theorem ev_listT : listO [.tup xs] = some (.lst (xs.map .d)) := rfl
end
/-! ### statements -/
section
variable {ρ ρ' ρ1 : En} {f g F G : En → Flw} {r : Flw} {e : En → Res D} {eo : En → Res OT} {t : En → Res Bool} {i a n : Nat} {d : D} {o : OT} {ds : List D} {b : Bool}
theorem run_rt (h : F (args n ds) = .rt o ρ) (hl : ds.length = a := by rfl) : run a n F ds = .ok o := by unfold run; rw [if_pos hl, h]
theorem run_nx (h : F (args n ds) = .nx ρ) (hl : ds.length = a := by rfl) : run a n F ds = .ok (.d .non) := by unfold run; rw [if_pos hl, h]
theorem seq_nx (h1 : f ρ = .nx ρ') (h2 : g ρ' = r) : seqF f g ρ = r := by unfold seqF; rw [h1]; exact h2
theorem seq_rt (h1 : f ρ = .rt o ρ') : seqF f g ρ = .rt o ρ' := by unfold seqF; rw [h1]
theorem if_t (h : t ρ = .ok true) (k : F ρ = r) : ifF t F G ρ = r := by unfold ifF; rw [h]; exact k
theorem if_f (h : t ρ = .ok false) (k : G ρ = r) : ifF t F G ρ = r := by unfold ifF; rw [h]; exact k
theorem asg_ok (h : e ρ = .ok d) : asg i e ρ = .nx (ρ.set i (some (.d d))) := by unfold asg; rw [h]; rfl
theorem asgO_ok (h : eo ρ = .ok o) : asgO i eo ρ = .nx (ρ.set i (some o)) := by unfold asgO; rw [h]; rfl
theorem ret_ok (h : e ρ = .ok d) : ret e ρ = .rt (.d d) ρ := by unfold ret; rw [h]; rfl
theorem retO_ok (h : eo ρ = .ok o) : retO eo ρ = .rt o ρ := by unfold retO; rw [h]; rfl
theorem drp_ok (h : e ρ = .ok d) : drp e ρ = .nx ρ := by unfold drp; rw [h]; rfl
theorem for_ok {fi : En → Res (List D)} {gg : D → En → Option En} {xs : List D} (h : fi ρ = .ok xs) : forF fi gg F ρ = forL gg F xs ρ := by unfold forF; rw [h]; rfl
theorem lcD_ok {vs : List Nat} {fi : En → Res (List D)} {gg : D → En → Option En} {fe : En → Res OT} {xs : List D} {ts : List OT} (h : fi ρ = .ok xs) (h2 : lcL gg t fe (wipeE ρ vs) xs = some ts) : lcD vs fi gg t fe ρ = .ok (.lst ts) := by
  unfold lcD; rw [h, Res.bind_ok, h2]; rfl
theorem putS_dK {s : Nat} {fi : En → Res D} {ks : List Key} {ts : List OT} {k : D} {q : Key} (h : ρ[s]? = some (some (.dK ks ts))) (hf : e ρ = .ok d) (hi : fi ρ = .ok k) (hk : keyOf k = some q) (hl : ks.length < 16777216) :
    putS s fi e ρ = .nx (ρ.set s (some (.dK (kput ks ts q (.d d)).1 (kput ks ts q (.d d)).2))) := by
  unfold putS; rw [h]; dsimp only; rw [hf, bindF_ok, hi, bindF_ok, hk]; dsimp only; rw [if_pos hl]
theorem putS_lst {s : Nat} {fi : En → Res D} {ts : List OT} {k : Int} {j : Nat} (h : ρ[s]? = some (some (.lst ts))) (hf : e ρ = .ok d) (hi : fi ρ = .ok (.int k)) (hk : ixN ts.length k = some j) :
    putS s fi e ρ = .nx (ρ.set s (some (.lst (ts.set j (.d d))))) := by
  unfold putS; rw [h]; dsimp only; rw [hf, bindF_ok, hi, bindF_ok]; dsimp only; rw [hk]
theorem app_ok {s : Nat} {ts : List OT} (h : ρ[s]? = some (some (.lst ts))) (hf : e ρ = .ok d) (hl : ts.length < 16777216) : app s e ρ = .nx (ρ.set s (some (.lst (ts ++ [.d d])))) := by
  unfold app; rw [h]; dsimp only; rw [hf, bindF_ok, if_pos hl]
theorem ext_ok {s : Nat} {ts : List OT} {ds : List D} (h : ρ[s]? = some (some (.lst ts))) (hf : e ρ = .ok (.lst ds)) (hl : ts.length + ds.length ≤ 16777216) : ext s e ρ = .nx (ρ.set s (some (.lst (ts ++ ds.map .d)))) := by
  unfold ext; rw [h]; dsimp only; rw [hf, bindF_ok]; dsimp only; rw [if_pos hl]
theorem ext_okT {s : Nat} {ts : List OT} {ds : List D} (h : ρ[s]? = some (some (.lst ts))) (hf : e ρ = .ok (.tup ds)) (hl : ts.length + ds.length ≤ 16777216) : ext s e ρ = .nx (ρ.set s (some (.lst (ts ++ ds.map .d)))) := by
  unfold ext; rw [h]; dsimp only; rw [hf, bindF_ok]; dsimp only; rw [if_pos hl]
theorem retM_ok {s : Nat} (h : ρ[s]? = some (some o)) : retM s ρ = .rt o (ρ.set s none) := by unfold retM; rw [h]
theorem asgG_ok {gg : D → En → Option En} (h : e ρ = .ok d) (h2 : gg d ρ = some ρ1) : asgG gg e ρ = .nx ρ1 := by unfold asgG; rw [h, bindF_ok, h2]
theorem ixN_in {n : Nat} {i : Int} (h0 : 0 ≤ i) (h1 : i < n) : ixN n i = some i.toNat := by unfold ixN; rw [if_pos h0, if_pos h1]
theorem callE1 {F : List D → Res OT} {fa : En → Res D} {x : D} (ha : fa ρ = .ok x) {q : D} (hF : F [x] = .ok o) (hz : fz o = q := by rfl) : fzE (call (nx0 F) (consA fa nilA)) ρ = .ok q := by
  subst hz
  simp only [ev_fzE, ev_call, ev_cons, ev_nil, ha, Res.bind_ok, nx0_ok hF]
theorem callE2 {F : List D → Res OT} {fa fb : En → Res D} {x y : D} (ha : fa ρ = .ok x) (hb : fb ρ = .ok y) {q : D} (hF : F [x, y] = .ok o) (hz : fz o = q := by rfl) : fzE (call (nx0 F) (consA fa (consA fb nilA))) ρ = .ok q := by
  subst hz
  simp only [ev_fzE, ev_call, ev_cons, ev_nil, ha, hb, Res.bind_ok, nx0_ok hF]
theorem callE3 {F : List D → Res OT} {fa fb fc : En → Res D} {x y z : D} (ha : fa ρ = .ok x) (hb : fb ρ = .ok y) (hc : fc ρ = .ok z) {q : D} (hF : F [x, y, z] = .ok o) (hz : fz o = q := by rfl) : fzE (call (nx0 F) (consA fa (consA fb (consA fc nilA)))) ρ = .ok q := by
  subst hz
  simp only [ev_fzE, ev_call, ev_cons, ev_nil, ha, hb, hc, Res.bind_ok, nx0_ok hF]
theorem callR1 {F : List D → Res OT} {fa : En → Res D} {x : D} (ha : fa ρ = .ok x) {q : D} (hF : F [x] = .ok o) (hz : fz o = q := by rfl) : fzE (call F (consA fa nilA)) ρ = .ok q := by
  subst hz
  simp only [ev_fzE, ev_call, ev_cons, ev_nil, ha, Res.bind_ok, hF]
theorem callR2 {F : List D → Res OT} {fa fb : En → Res D} {x y : D} (ha : fa ρ = .ok x) (hb : fb ρ = .ok y) {q : D} (hF : F [x, y] = .ok o) (hz : fz o = q := by rfl) : fzE (call F (consA fa (consA fb nilA))) ρ = .ok q := by
  subst hz
  simp only [ev_fzE, ev_call, ev_cons, ev_nil, ha, hb, Res.bind_ok, hF]
theorem callR3 {F : List D → Res OT} {fa fb fc : En → Res D} {x y z : D} (ha : fa ρ = .ok x) (hb : fb ρ = .ok y) (hc : fc ρ = .ok z) {q : D} (hF : F [x, y, z] = .ok o) (hz : fz o = q := by rfl) : fzE (call F (consA fa (consA fb (consA fc nilA)))) ρ = .ok q := by
  subst hz
  simp only [ev_fzE, ev_call, ev_cons, ev_nil, ha, hb, hc, Res.bind_ok, hF]
theorem cal1 {g : List D → Option D} {fa : En → Res D} {x y : D} (ha : fa ρ = .ok x) (hF : g [x] = some y) : cal g (consA fa nilA) ρ = .ok y := by
  simp only [ev_cal, ev_cons, ev_nil, ha, Res.bind_ok, hF, ofO_some]
theorem calO1 {g : List D → Option OT} {fa : En → Res D} {x : D} (ha : fa ρ = .ok x) (hF : g [x] = some o) : cal g (consA fa nilA) ρ = .ok o := by
  simp only [ev_cal, ev_cons, ev_nil, ha, Res.bind_ok, hF, ofO_some]
theorem op2E {g : D → D → Option D} {fa fb : En → Res D} {x y z : D} (ha : fa ρ = .ok x) (hb : fb ρ = .ok y) (hg : g x y = some z) : op2 g fa fb ρ = .ok z := by
  simp only [ev_op2, ha, hb, Res.bind_ok, hg, ofO_some]
theorem fzEE {fo : En → Res OT} (h : fo ρ = .ok o) : fzE fo ρ = .ok (fz o) := by simp only [ev_fzE, h, Res.bind_ok]
theorem tstE {fa : En → Res D} (h : fa ρ = .ok (.bl b)) : tst fa ρ = .ok b := by simp only [ev_tst, h, Res.bind_ok, ev_asB]
theorem fz_step (h : ρ[i]? = some (some o)) (k : F (ρ.set i (some (.d (fz o)))) = r) : fzF i F ρ = r := by unfold fzF frzAt; rw [h]; exact k
theorem fg_step (k : F (ρ.set i none) = r) : fgF i F ρ = r := k
end
end FL
/-! Loops over ranges and mapped lists. -/
namespace FL
open PySem PySem.Spec PyProof.Rows L2
theorem forR {g : D → En → Option En} {body : En → Flw} (P : Nat → En → Prop) {f : Nat → Int} {n : Nat} {ρ : En} (h0 : P 0 ρ) (hs : ∀ i ρ, i < n → P i ρ → ∃ ρ1, g (.int (f i)) ρ = some ρ1 ∧ ∃ ρ2, body ρ1 = .nx ρ2 ∧ P (i + 1) ρ2) :
    ∃ ρ', forL g body ((List.range n).map fun i => D.int (f i)) ρ = .nx ρ' ∧ P n ρ' := by
  have h := forL_inv (g := g) (body := body) P (xs := (List.range n).map fun i => D.int (f i)) (ρ := ρ) 0 h0 fun i x ρ hx hp => by
    rw [List.getElem?_map] at hx
    obtain ⟨j, hj, rfl⟩ := Option.map_eq_some_iff.mp hx
    obtain ⟨hi, hj⟩ := List.getElem?_eq_some_iff.mp hj
    rw [List.getElem_range] at hj
    subst hj
    rw [List.length_range] at hi
    rw [Nat.zero_add] at hp ⊢
    exact hs i ρ hi hp
  rw [List.length_map, List.length_range, Nat.zero_add] at h
  exact h
theorem forM {α : Type} {g : D → En → Option En} {body : En → Flw} (P : Nat → En → Prop) {f : α → D} {xs : List α} {ρ : En} (h0 : P 0 ρ) (hs : ∀ i x ρ, xs[i]? = some x → P i ρ → ∃ ρ1, g (f x) ρ = some ρ1 ∧ ∃ ρ2, body ρ1 = .nx ρ2 ∧ P (i + 1) ρ2) :
    ∃ ρ', forL g body (xs.map f) ρ = .nx ρ' ∧ P xs.length ρ' := by
  have h := forL_inv (g := g) (body := body) P (xs := xs.map f) (ρ := ρ) 0 h0 fun i x ρ hx hp => by
    rw [List.getElem?_map] at hx
    obtain ⟨j, hj, rfl⟩ := Option.map_eq_some_iff.mp hx
    rw [Nat.zero_add] at hp ⊢
    exact hs i j ρ hj hp
  rw [List.length_map, Nat.zero_add] at h
  exact h
theorem rng3p (v : Nat) (h : v ≤ 16777215) : rg3 [.int ((v : Int) - 1), .int (-1), .int (-1)] = some ((List.range v).map fun (i : Nat) => D.int ((v : Int) - 1 - i)) := by
  unfold rg3
  dsimp only
  rw [if_pos ⟨rfl, by omega, by omega, by omega, by omega, by omega⟩]
  unfold rngL
  rw [show ((v : Int) - 1 - (-1)).toNat = v by omega]
  congr 1
  exact List.map_congr_left fun a _ => by congr 1; omega
/-! equality of plain data with itself -/
mutual
theorem eqv_refl : ∀ (n : Nat) (d : D), plain n d = true → eqv d d = true
  | _, .non, _ => rfl
  | _, .bl b, _ => by simp [eqv]
  | _, .int i, _ => by simp [eqv]
  | _, .str z, _ => by simp [eqv]
  | n, .lst xs, h => by rw [eqv]; exact eqvs_refl n xs (by simpa [plain] using h)
  | n, .tup xs, h => by rw [eqv]; exact eqvs_refl n xs (by simpa [plain] using h)
  | _, .dK _ _, h => by simp [plain] at h
  | _, .dT _ _, h => by simp [plain] at h
  | _, .ins _ _ _, h => by simp [plain] at h
  | _, .scr _, h => by simp [plain] at h
theorem eqvs_refl : ∀ (n : Nat) (ds : List D), plains n ds = true → eqvs ds ds = true
  | 0, _, h => by simp [plains] at h
  | _ + 1, [], _ => rfl
  | n + 1, x :: xs, h => by
    simp only [plains, Bool.and_eq_true] at h
    rw [eqvs, eqv_refl n x h.1, eqvs_refl (n + 1) xs h.2]; rfl
end
theorem plains_all {n : Nat} : ∀ {ds : List D}, (∀ d ∈ ds, plain n d = true) → plains (n + 1) ds = true
  | [], _ => rfl
  | d :: ds, h => by rw [plains, h d List.mem_cons_self, plains_all fun x hx => h x (List.mem_cons_of_mem _ hx)]; rfl
theorem eqD_self {d : D} (h : plain 64 d = true) : eqD d d = some (.bl true) := by
  unfold eqD
  rw [if_pos (by rw [h]; rfl), eqv_refl 64 d h]
theorem neD_self {d : D} (h : plain 64 d = true) : neD d d = some (.bl false) := by
  unfold neD
  rw [if_pos (by rw [h]; rfl), eqv_refl 64 d h]; rfl
theorem plain_lI {n : Nat} (l : List Int) : plain (n + 1) (lI l) = true := by
  unfold lI
  rw [plain]
  exact plains_all fun d hd => by obtain ⟨x, _, rfl⟩ := List.mem_map.mp hd; simp [plain]
theorem plain_tI {n : Nat} (l : List Int) : plain (n + 1) (tI l) = true := by
  unfold tI
  rw [plain]
  exact plains_all fun d hd => by obtain ⟨x, _, rfl⟩ := List.mem_map.mp hd; simp [plain]
theorem plain_lst {n : Nat} {ds : List D} (h : ∀ d ∈ ds, plain n d = true) : plain (n + 1) (.lst ds) = true := by
  rw [plain]; exact plains_all h
theorem plain_tup {n : Nat} {ds : List D} (h : ∀ d ∈ ds, plain n d = true) : plain (n + 1) (.tup ds) = true := by
  rw [plain]; exact plains_all h
/-! exceptions -/
section
variable {ρ ρ' : En} {F g : En → Flw} {x : Exn} {a n : Nat} {ds : List D} {e : En → Res D} {eo : En → Res OT} {o : OT} {r : Flw}
theorem run_ex (h : F (args n ds) = .ex x ρ) (hl : ds.length = a := by rfl) : run a n F ds = .ex x := by unfold run; rw [if_pos hl, h]
theorem seq_ex (h : F ρ = .ex x ρ') : seqF F g ρ = .ex x ρ' := by unfold seqF; rw [h]
theorem drp_ex (h : e ρ = .ex x) : drp e ρ = .ex x ρ := by unfold drp; rw [h]; rfl
theorem ret_ex (h : e ρ = .ex x) : ret e ρ = .ex x ρ := by unfold ret; rw [h]; rfl
theorem retO_ex (h : eo ρ = .ex x) : retO eo ρ = .ex x ρ := by unfold retO; rw [h]; rfl
theorem asg_ex {i : Nat} (h : e ρ = .ex x) : asg i e ρ = .ex x ρ := by unfold asg; rw [h]; rfl
theorem asgO_ex {i : Nat} (h : eo ρ = .ex x) : asgO i eo ρ = .ex x ρ := by unfold asgO; rw [h]; rfl
theorem fzE_ex (h : eo ρ = .ex x) : fzE eo ρ = .ex x := by rw [ev_fzE, h]; rfl
theorem call_ex {G : List D → Res OT} {fs : En → Res (List D)} {zs : List D} (h : fs ρ = .ok zs) (hG : G zs = .ex x) : call G fs ρ = .ex x := by rw [ev_call, h]; exact hG
theorem consE {fa : En → Res D} {fs : En → Res (List D)} {d : D} {zs : List D} (h : fa ρ = .ok d) (h2 : fs ρ = .ok zs) : consA fa fs ρ = .ok (d :: zs) := by rw [ev_cons, h, Res.bind_ok, h2]; rfl
theorem try_rt {T : List Str} {sub : Str → Str → Bool} {ks : List Clz} (h : F ρ = .rt o ρ') : tryF T sub F ks ρ = .rt o ρ' := by unfold tryF; rw [h]
theorem try_nx {T : List Str} {sub : Str → Str → Bool} {ks : List Clz} (h : F ρ = .nx ρ') : tryF T sub F ks ρ = .nx ρ' := by unfold tryF; rw [h]
theorem try_ex {T : List Str} {sub : Str → Str → Bool} {ks : List Clz} {c : Str} (h : F ρ = .ex ⟨c, none⟩ ρ') (hc : c ∈ T) (k : hdl sub ks ⟨c, none⟩ ρ' = r) : tryF T sub F ks ρ = r := by
  unfold tryF
  rw [h]
  dsimp only
  rw [if_pos (by rw [decide_eq_true hc]; rfl)]
  exact k
theorem hdl_yes {sub : Str → Str → Bool} {k : Clz} {ks : List Clz} (h : sub x.c k.c = true) (q : ∀ b, unE k.n (k.f b x.c (setE k.n b ρ)) = r) : hdl sub (k :: ks) x ρ = r := by
  unfold hdl
  rw [if_pos h]
  exact allA_of q
theorem un_rt {i : Nat} (h : r = .rt o ρ) (e : List.replicate ρ.length none = ρ' := by rfl) : unE (some i) r = .rt o ρ' := by rw [h, ← e]; rfl
theorem un_nx {i : Nat} (h : r = .nx ρ) (e : ρ.set i none = ρ' := by rfl) : unE (some i) r = .nx ρ' := by rw [h, ← e]; rfl
theorem isXE {b : Addr} {fa : En → Res D} {t t' : Bool} (h : fa ρ = .ok (.exn b)) (ht : t = t') : op1 (isX b t) fa ρ = .ok (.bl t') := by
  rw [ev_op1, h, Res.bind_ok, isX_self, ht]; rfl
theorem hdl_no {sub : Str → Str → Bool} {k : Clz} {ks : List Clz} (h : sub x.c k.c = false) (q : hdl sub ks x ρ = r) : hdl sub (k :: ks) x ρ = r := by
  unfold hdl
  rw [if_neg (by rw [h]; exact Bool.false_ne_true)]
  exact q
/-- a loop that is left in its i-th turn -/
theorem forM_ex {α : Type} {g : D → En → Option En} {body : En → Flw} (P : Nat → En → Prop) {f : α → D} {xs : List α} {ρ : En} {i : Nat} {y : α} (hy : xs[i]? = some y) (h0 : P 0 ρ) (hs : ∀ j z ρ, j < i → xs[j]? = some z → P j ρ → ∃ ρ1, g (f z) ρ = some ρ1 ∧ ∃ ρ2, body ρ1 = .nx ρ2 ∧ P (j + 1) ρ2)
    (he : ∀ ρ, P i ρ → ∃ ρ1, g (f y) ρ = some ρ1 ∧ ∃ ρ2, body ρ1 = .ex x ρ2) : ∃ ρ2, forL g body (xs.map f) ρ = .ex x ρ2 := by
  induction xs generalizing i ρ P with
  | nil => simp at hy
  | cons z xs ih =>
    cases i with
    | zero =>
      simp at hy
      subst hy
      obtain ⟨ρ1, h1, ρ2, h2⟩ := he ρ h0
      refine ⟨ρ2, ?_⟩
      rw [List.map_cons]
      unfold forL
      rw [h1]
      dsimp only
      rw [h2]
    | succ i =>
      obtain ⟨ρ1, h1, ρ2, h2, h3⟩ := hs 0 z ρ (by omega) rfl h0
      obtain ⟨ρ3, h4⟩ := ih (fun j => P (j + 1)) (by simpa using hy) h3 (fun j w ρ hj hw hp => hs (j + 1) w ρ (by omega) (by simpa using hw) hp) he
      refine ⟨ρ3, ?_⟩
      rw [List.map_cons]
      unfold forL
      rw [h1]
      dsimp only
      rw [h2]
      exact h4
theorem forL_rt {g : D → En → Option En} {body : En → Flw} (P : Nat → En → Prop) {xs : List D} {ρ : En} {i : Nat} {y : D} (hy : xs[i]? = some y) (h0 : P 0 ρ) (hs : ∀ j z ρ, j < i → xs[j]? = some z → P j ρ → ∃ ρ1, g z ρ = some ρ1 ∧ ∃ ρ2, body ρ1 = .nx ρ2 ∧ P (j + 1) ρ2)
    (he : ∀ ρ, P i ρ → ∃ ρ1, g y ρ = some ρ1 ∧ ∃ ρ2, body ρ1 = .rt o ρ2) : ∃ ρ2, forL g body xs ρ = .rt o ρ2 := by
  induction xs generalizing i ρ P with
  | nil => simp at hy
  | cons z xs ih =>
    cases i with
    | zero =>
      simp at hy
      subst hy
      obtain ⟨ρ1, h1, ρ2, h2⟩ := he ρ h0
      refine ⟨ρ2, ?_⟩
      unfold forL
      rw [h1]
      dsimp only
      rw [h2]
    | succ i =>
      obtain ⟨ρ1, h1, ρ2, h2, h3⟩ := hs 0 z ρ (by omega) rfl h0
      obtain ⟨ρ3, h4⟩ := ih (fun j => P (j + 1)) (by simpa using hy) h3 (fun j w ρ hj hw hp => hs (j + 1) w ρ (by omega) (by simpa using hw) hp) he
      refine ⟨ρ3, ?_⟩
      unfold forL
      rw [h1]
      dsimp only
      rw [h2]
      exact h4
theorem for_ex {fi : En → Res (List D)} {gg : D → En → Option En} {xs : List D} (h : fi ρ = .ok xs) (k : forL gg F xs ρ = r) : forF fi gg F ρ = r := (for_ok h).trans k
end
/-! tests -/
section
variable {s t : En → Res Bool} {fa fb : En → Res D} {ρ : En} {b : Bool} {r : Res Bool} {q : Res D}
theorem orT_f (h : s ρ = .ok false) (k : t ρ = r) : orT s t ρ = r := by rw [ev_orT, h]; exact k
theorem orT_t (h : s ρ = .ok true) : orT s t ρ = .ok true := by rw [ev_orT, h]; rfl
theorem andT_t (h : s ρ = .ok true) (k : t ρ = r) : andT s t ρ = r := by rw [ev_andT, h]; exact k
theorem andT_f (h : s ρ = .ok false) : andT s t ρ = .ok false := by rw [ev_andT, h]; rfl
theorem notT_ok (h : t ρ = .ok b) : notT t ρ = .ok (!b) := by rw [ev_notT, h]; rfl
theorem notT_f (h : t ρ = .ok true) : notT t ρ = .ok false := by rw [ev_notT, h]; rfl
theorem notT_t (h : t ρ = .ok false) : notT t ρ = .ok true := by rw [ev_notT, h]; rfl
theorem andD_t (h : fa ρ = .ok (.bl true)) (k : fb ρ = q) : andD fa fb ρ = q := by rw [ev_andD, h]; exact k
theorem andD_f (h : fa ρ = .ok (.bl false)) : andD fa fb ρ = .ok (.bl false) := by rw [ev_andD, h]; rfl
theorem orD_f (h : fa ρ = .ok (.bl false)) (k : fb ρ = q) : orD fa fb ρ = q := by rw [ev_orD, h]; exact k
theorem orD_t (h : fa ρ = .ok (.bl true)) : orD fa fb ρ = .ok (.bl true) := by rw [ev_orD, h]; rfl
theorem notD_ok (h : fa ρ = .ok (.bl b)) : notD fa ρ = .ok (.bl (!b)) := by rw [ev_notD, h]; rfl
end
section
variable {fa fb fc : En → Res D} {ρ : En} {x y z q : D} {o : OT}
theorem cal2 {g : List D → Option D} (ha : fa ρ = .ok x) (hb : fb ρ = .ok y) (hF : g [x, y] = some z) : cal g (consA fa (consA fb nilA)) ρ = .ok z := by
  simp only [ev_cal, ev_cons, ev_nil, ha, hb, Res.bind_ok, hF, ofO_some]
theorem cal3 {g : List D → Option D} (ha : fa ρ = .ok x) (hb : fb ρ = .ok y) (hc : fc ρ = .ok z) (hF : g [x, y, z] = some q) : cal g (consA fa (consA fb (consA fc nilA))) ρ = .ok q := by
  simp only [ev_cal, ev_cons, ev_nil, ha, hb, hc, Res.bind_ok, hF, ofO_some]
theorem callO1 {F : List D → Res OT} (ha : fa ρ = .ok x) (hF : F [x] = .ok o) : call F (consA fa nilA) ρ = .ok o := by
  simp only [ev_call, ev_cons, ev_nil, ha, Res.bind_ok, hF]
theorem callO2 {F : List D → Res OT} (ha : fa ρ = .ok x) (hb : fb ρ = .ok y) (hF : F [x, y] = .ok o) : call F (consA fa (consA fb nilA)) ρ = .ok o := by
  simp only [ev_call, ev_cons, ev_nil, ha, hb, Res.bind_ok, hF]
theorem callO3 {F : List D → Res OT} (ha : fa ρ = .ok x) (hb : fb ρ = .ok y) (hc : fc ρ = .ok z) (hF : F [x, y, z] = .ok o) : call F (consA fa (consA fb (consA fc nilA))) ρ = .ok o := by
  simp only [ev_call, ev_cons, ev_nil, ha, hb, hc, Res.bind_ok, hF]
theorem itA1 {g : List D → Option (List D)} {xs : List D} (ha : fa ρ = .ok x) (hg : g [x] = some xs) : itA g (consA fa nilA) ρ = .ok xs := by
  simp only [ev_itA, ev_cons, ev_nil, ha, Res.bind_ok, hg, ofO_some]
theorem itA2 {g : List D → Option (List D)} {xs : List D} (ha : fa ρ = .ok x) (hb : fb ρ = .ok y) (hg : g [x, y] = some xs) : itA g (consA fa (consA fb nilA)) ρ = .ok xs := by
  simp only [ev_itA, ev_cons, ev_nil, ha, hb, Res.bind_ok, hg, ofO_some]
theorem itA3 {g : List D → Option (List D)} {xs : List D} (ha : fa ρ = .ok x) (hb : fb ρ = .ok y) (hc : fc ρ = .ok z) (hg : g [x, y, z] = some xs) : itA g (consA fa (consA fb (consA fc nilA))) ρ = .ok xs := by
  simp only [ev_itA, ev_cons, ev_nil, ha, hb, hc, Res.bind_ok, hg, ofO_some]
theorem it1E {g : D → Option (List D)} {xs : List D} (ha : fa ρ = .ok x) (hg : g x = some xs) : it1 g fa ρ = .ok xs := by
  simp only [ev_it1, ha, Res.bind_ok, hg, ofO_some]
theorem op1E {g : D → Option D} (ha : fa ρ = .ok x) (hg : g x = some z) : op1 g fa ρ = .ok z := by
  simp only [ev_op1, ha, Res.bind_ok, hg, ofO_some]
end
/-! what is read of owned things -/
theorem bor_ok {f : En → Res D} {ρ : En} {d : D} (h : f (frz ρ) = .ok d) (hf : flat d = true := by rfl) : bor f ρ = .ok d := by
  unfold bor
  rw [h]
  dsimp only
  rw [if_pos (by rw [hf, Bool.true_or])]
theorem bor_okI {f : En → Res D} {ρ : En} {d : D} (h : f (frz ρ) = .ok d) (hf : imm d = true) (hn : noE ρ = true) : bor f ρ = .ok d := by
  unfold bor
  rw [h]
  dsimp only
  rw [if_pos (by rw [hf, hn, Bool.and_self, Bool.or_true])]
theorem borT_ok {f : En → Res Bool} {ρ : En} {b : Bool} (h : f (frz ρ) = .ok b) : borT f ρ = .ok b := by
  unfold borT
  rw [h]
theorem borO_ok {f : En → Res OT} {ρ : En} {t : OT} (h : f (frz ρ) = .ok t) (hf : flatT t = true) : borO f ρ = .ok t := by
  unfold borO
  rw [h]
  dsimp only
  rw [if_pos (by rw [hf, Bool.true_or])]
theorem borO_okI {f : En → Res OT} {ρ : En} {t : OT} (h : f (frz ρ) = .ok t) (hf : immT t = true) (hn : noE ρ = true) : borO f ρ = .ok t := by
  unfold borO
  rw [h]
  dsimp only
  rw [if_pos (by rw [hf, hn, Bool.and_self, Bool.or_true])]
theorem flatTs_ints (l : List Int) : flatTs (l.map fun i => OT.d (.int i)) = true := by
  induction l with
  | nil => rfl
  | cons a l ih => rw [List.map_cons, flatTs, ih]; rfl
theorem flatT_oI (l : List Int) : flatT (oI l) = true := by unfold oI; rw [flatT, flatTs_ints]
theorem revD_lI (l : List Int) : revD (lI l) = some (lI l.reverse) := by
  unfold revD lI
  rw [List.map_reverse]
theorem inT_int (x : Int) (l : List Int) : inD (.int x) (tI l) = some (decide (x ∈ l)) := by
  unfold inD tI
  dsimp only
  have hf : (l.map D.int).all flat = true := by
    rw [List.all_map]
    exact List.all_eq_true.mpr fun _ _ => rfl
  rw [hf]
  show some ((l.map D.int).any fun y => eqv y (.int x)) = _
  rw [List.any_map]
  congr 1
  rw [Bool.eq_iff_iff, List.any_eq_true, decide_eq_true_iff]
  constructor
  · rintro ⟨y, hy, h⟩
    rw [← eq_of_beq (show (y == x) = true from h)]; exact hy
  · exact fun h => ⟨x, h, beq_self_eq_true x⟩
theorem in1T_int (x : Int) (l : List Int) : inD1 (.int x) (tI l) = some (.bl (decide (x ∈ l))) := by unfold inD1; rw [inT_int]; rfl
end FL
/-! The typed layer, part A: encoders, what a typed computation says of a denotation. -/
namespace FL
open PySem PySem.Spec PyProof.Rows L2
section
variable {α β γ δ ε σ R : Type}
/-! ### encoders -/
abbrev eI : Int → D := D.int
abbrev eB : Bool → D := D.bl
abbrev eS : Str → D := D.str
def eN (_ : Unit) : D := .non
def eC (ns : List Int) : D := .scr ns
def eL (e : α → D) (l : List α) : D := .lst (l.map e)
def eV (e : α → D) (l : List α) : D := .tup (l.map e)
def eT1 (e1 : α → D) (p : α) : D := .tup [e1 p]
def eT2 (e1 : α → D) (e2 : β → D) (p : α × β) : D := .tup [e1 p.1, e2 p.2]
def eT3 (e1 : α → D) (e2 : β → D) (e3 : γ → D) (p : α × β × γ) : D := .tup [e1 p.1, e2 p.2.1, e3 p.2.2]
def eT4 (e1 : α → D) (e2 : β → D) (e3 : γ → D) (e4 : δ → D) (p : α × β × γ × δ) : D := .tup [e1 p.1, e2 p.2.1, e3 p.2.2.1, e4 p.2.2.2]
def eO (e : α → D) : Option α → D
  | none => .non
  | some a => e a
def eKI (e : α → D) (l : List (Int × α)) : D := .dK (l.map fun p => .inl p.1) (l.map fun p => e p.2)
def eKS (e : α → D) (l : List (Str × α)) : D := .dK (l.map fun p => .inr p.1) (l.map fun p => e p.2)
def oD (e : α → D) (a : α) : OT := .d (e a)
def oL (e : α → OT) (l : List α) : OT := .lst (l.map e)
def oO (e : α → OT) : Option α → OT
  | none => .d .non
  | some a => e a
def oKI (e : α → OT) (l : List (Int × α)) : OT := .dK (l.map fun p => .inl p.1) (l.map fun p => e p.2)
def oKS (e : α → OT) (l : List (Str × α)) : OT := .dK (l.map fun p => .inr p.1) (l.map fun p => e p.2)
theorem fzs_mp {eo : α → OT} {e : α → D} (h : ∀ a, fz (eo a) = e a) (l : List α) : fzs (l.map eo) = l.map e := by
  rw [fzs_eq, List.map_map]; exact List.map_congr_left fun a _ => h a
theorem zD {e : α → D} (a : α) : fz (oD e a) = e a := rfl
theorem zL {eo : α → OT} {e : α → D} (h : ∀ a, fz (eo a) = e a) (l : List α) : fz (oL eo l) = eL e l := by
  unfold oL eL; rw [fz_lst, fzs_mp h]
theorem zO {eo : α → OT} {e : α → D} (h : ∀ a, fz (eo a) = e a) (l : Option α) : fz (oO eo l) = eO e l := by
  cases l with
  | none => rfl
  | some a => exact h a
theorem zKI {eo : α → OT} {e : α → D} (h : ∀ a, fz (eo a) = e a) (l : List (Int × α)) : fz (oKI eo l) = eKI e l := by
  unfold oKI eKI; rw [fz, fzs_mp (e := fun p : Int × α => e p.2) fun p => h p.2]
theorem zKS {eo : α → OT} {e : α → D} (h : ∀ a, fz (eo a) = e a) (l : List (Str × α)) : fz (oKS eo l) = eKS e l := by
  unfold oKS eKS; rw [fz, fzs_mp (e := fun p : Str × α => e p.2) fun p => h p.2]
/-! ### what is frozen of an environment -/
theorem fr0 : frz [] = [] := rfl
theorem frN {ρ ρ' : En} (h : frz ρ = ρ') : frz (none :: ρ) = none :: ρ' := by rw [← h]; rfl
theorem frD {ρ ρ' : En} {d : D} (h : frz ρ = ρ') : frz (some (.d d) :: ρ) = some (.d d) :: ρ' := by rw [← h]; rfl
theorem frO {ρ ρ' : En} {o : OT} {d : D} (z : fz o = d) (h : frz ρ = ρ') : frz (some o :: ρ) = some (.d d) :: ρ' := by rw [← h, ← z]; rfl
theorem frJ {ρ ρ' : En} {o : Option OT} (h : frz ρ = ρ') : frz (o :: ρ) = (o.map fun t => .d (fz t)) :: ρ' := by rw [← h]; rfl
/-! ### computations -/
/-- on, where something came; what is raised is stuck here -/
def nb (m : Res α) (k : α → Res β) : Res β := match m with
  | .ok a => k a
  | _ => .bad
@[simp] theorem nb_ok (a : α) (k : α → Res β) : nb (.ok a) k = k a := rfl
@[simp] theorem nb_bad (k : α → Res β) : nb .bad k = .bad := rfl
@[simp] theorem nb_ex (x : Exn) (k : α → Res β) : nb (.ex x) k = .bad := rfl
theorem nb_eq_ok {m : Res α} {k : α → Res β} {b : β} (h : nb m k = .ok b) : ∃ a, m = .ok a ∧ k a = .ok b := by
  cases m with
  | ok a => exact ⟨a, rfl, h⟩
  | ex x => cases h
  | bad => cases h
/-- m, read by e, is what r says -/
def Sm (w : Prop) (e : α → β) (m : Res α) (r : Res β) : Prop := match m with
  | .ok a => r = .ok (e a)
  | .ex x => w → r = .ex x
  | .bad => True
/-- .. a fresh tree, of whatever shape -/
def Sz (w : Prop) (e : α → D) (m : Res α) (r : Res OT) : Prop := match m with
  | .ok a => ∃ o, r = .ok o ∧ fz o = e a
  | .ex x => w → r = .ex x
  | .bad => True
theorem Sm.p {w : Prop} {e : α → β} {a : α} {r : Res β} (h : r = .ok (e a)) : Sm w e (.ok a) r := h
theorem Sm.nb {w : Prop} {e1 : α → β} {e : γ → δ} {m : Res α} {K : α → Res γ} {r1 : Res β} {r : Res δ} (h : Sm False e1 m r1) (k : ∀ a, r1 = .ok (e1 a) → Sm w e (K a) r) : Sm w e (nb m K) r := by
  cases m with
  | ok a => exact k a h
  | ex x => exact trivial
  | bad => exact trivial
theorem Sm.nz {w : Prop} {e1 : α → D} {e : γ → δ} {m : Res α} {K : α → Res γ} {r1 : Res OT} {r : Res δ} (h : Sz False e1 m r1) (k : ∀ a o, r1 = .ok o → fz o = e1 a → Sm w e (K a) r) : Sm w e (FL.nb m K) r := by
  cases m with
  | ok a => obtain ⟨o, h1, h2⟩ := h; exact k a o h1 h2
  | ex x => exact trivial
  | bad => exact trivial
theorem Sm.weak {w : Prop} {e : α → β} {m : Res α} {r : Res β} (h : Sm w e m r) : Sm False e m r := by
  cases m with
  | ok a => exact h
  | ex x => exact fun z => z.elim
  | bad => exact trivial
theorem Sz.weak {w : Prop} {e : α → D} {m : Res α} {r : Res OT} (h : Sz w e m r) : Sz False e m r := by
  cases m with
  | ok a => exact h
  | ex x => exact fun z => z.elim
  | bad => exact trivial
theorem Sm.z {w : Prop} {eo : α → OT} {e : α → D} {m : Res α} {r : Res OT} (z : ∀ a, fz (eo a) = e a) (h : Sm w eo m r) : Sz w e m r := by
  cases m with
  | ok a => exact ⟨_, h, z a⟩
  | ex x => exact h
  | bad => exact trivial
theorem Sz.fzE {w : Prop} {e : α → D} {m : Res α} {f : En → Res OT} {ρ : En} (h : Sz w e m (f ρ)) : Sm w e m (FL.fzE f ρ) := by
  cases m with
  | ok a => obtain ⟨o, h1, h2⟩ := h; exact (fzEE h1).trans (by rw [h2])
  | ex x => exact fun z => by unfold FL.fzE; rw [h z]; rfl
  | bad => exact trivial
theorem Sm.fzE {w : Prop} {eo : α → OT} {e : α → D} {m : Res α} {f : En → Res OT} {ρ : En} (z : ∀ a, fz (eo a) = e a) (h : Sm w eo m (f ρ)) : Sm w e m (FL.fzE f ρ) := (Sm.z z h).fzE
theorem fzP {eo : α → OT} {e : α → D} {a : α} {f : En → Res OT} {ρ : En} (z : ∀ a, fz (eo a) = e a) (h : f ρ = .ok (eo a)) : fzE f ρ = .ok (e a) := by
  exact (fzEE h).trans (by rw [z])
theorem fzQ {o : OT} {d : D} {f : En → Res OT} {ρ : En} (h : f ρ = .ok o) (z : fz o = d) : fzE f ρ = .ok d := by
  exact (fzEE h).trans (by rw [z])
theorem ofP {d : D} {f : En → Res D} {ρ : En} (h : f ρ = .ok d) : ofE f ρ = .ok (.d d) := by
  unfold ofE; rw [h]; rfl
theorem Sm.of {w : Prop} {e : α → D} {m : Res α} {f : En → Res D} {ρ : En} (h : Sm w e m (f ρ)) : Sm w (oD e) m (ofE f ρ) := by
  cases m with
  | ok a => exact ofP h
  | ex x => exact fun z => by unfold ofE; rw [h z]; rfl
  | bad => exact trivial
theorem Sm.tst {w : Prop} {m : Res Bool} {f : En → Res D} {ρ : En} (h : Sm w eB m (f ρ)) : Sm w id m (FL.tst f ρ) := by
  cases m with
  | ok a => exact tstE h
  | ex x => exact fun z => by unfold FL.tst; rw [h z]; rfl
  | bad => exact trivial
theorem Sm.notT {w : Prop} {m : Res Bool} {t : En → Res Bool} {ρ : En} (h : Sm w id m (t ρ)) : Sm w id (m.bind fun b => .ok (!b)) (FL.notT t ρ) := by
  cases m with
  | ok a => exact notT_ok h
  | ex x => exact fun z => by unfold FL.notT; rw [h z]; rfl
  | bad => exact trivial
theorem Sm.coe {w : Prop} {e : α → β} {e' : γ → β} {c : α → γ} {m : Res α} {r : Res β} (hc : ∀ a, e a = e' (c a)) (h : Sm w e m r) : Sm w e' (m.bind fun a => .ok (c a)) r := by
  cases m with
  | ok a => exact h.trans (by rw [hc])
  | ex x => exact h
  | bad => exact trivial
theorem Sz.coe {w : Prop} {e : α → D} {e' : γ → D} {c : α → γ} {m : Res α} {r : Res OT} (hc : ∀ a, e a = e' (c a)) (h : Sz w e m r) : Sz w e' (m.bind fun a => .ok (c a)) r := by
  cases m with
  | ok a => obtain ⟨o, h1, h2⟩ := h; exact ⟨o, h1, h2.trans (hc a)⟩
  | ex x => exact h
  | bad => exact trivial
/-- a call -/
theorem callP {F : List D → Res OT} {fs : En → Res (List D)} {ρ : En} {ds : List D} {r : Res OT} (ha : fs ρ = .ok ds) (h : F ds = r) : call F fs ρ = r := by
  unfold call; rw [ha]; exact h
theorem nx0_eq {F : List D → Res OT} {ds : List D} {o : OT} (h : F ds = .ok o) : nx0 F ds = .ok o := nx0_ok h
theorem Sm.call {w : Prop} {eo : α → OT} {m : Res α} {F : List D → Res OT} {fs : En → Res (List D)} {ρ : En} {ds : List D} (ha : fs ρ = .ok ds) (h : Sm w eo m (F ds)) : Sm w eo m (FL.call F fs ρ) := by rw [callP ha rfl]; exact h
theorem Sz.call {w : Prop} {eo : α → D} {m : Res α} {F : List D → Res OT} {fs : En → Res (List D)} {ρ : En} {ds : List D} (ha : fs ρ = .ok ds) (h : Sz w eo m (F ds)) : Sz w eo m (FL.call F fs ρ) := by rw [callP ha rfl]; exact h
theorem Sm.call0 {w : Prop} {eo : α → OT} {m : Res α} {F : List D → Res OT} {fs : En → Res (List D)} {ρ : En} {ds : List D} (ha : fs ρ = .ok ds) (h : Sm w eo m (F ds)) : Sm False eo m (FL.call (nx0 F) fs ρ) := by
  rw [callP ha rfl]
  cases m with
  | ok a => exact nx0_ok h
  | ex x => exact fun z => z.elim
  | bad => exact trivial
theorem Sz.call0 {w : Prop} {eo : α → D} {m : Res α} {F : List D → Res OT} {fs : En → Res (List D)} {ρ : En} {ds : List D} (ha : fs ρ = .ok ds) (h : Sz w eo m (F ds)) : Sz False eo m (FL.call (nx0 F) fs ρ) := by
  rw [callP ha rfl]
  cases m with
  | ok a => obtain ⟨o, h1, h2⟩ := h; exact ⟨o, nx0_ok h1, h2⟩
  | ex x => exact fun z => z.elim
  | bad => exact trivial
/-! ### and, or, if -/
section
variable {fa fb : En → Res D} {ta tb : En → Res Bool} {ρ : En} {b : Bool} {m : Res Bool} {w : Prop}
theorem andP {b2 : Bool} (h1 : fa ρ = .ok (.bl b)) (h2 : fb ρ = .ok (.bl b2)) : andD fa fb ρ = .ok (.bl (b && b2)) := by
  cases b with
  | true => exact andD_t h1 h2
  | false => exact andD_f h1
theorem orP {b2 : Bool} (h1 : fa ρ = .ok (.bl b)) (h2 : fb ρ = .ok (.bl b2)) : orD fa fb ρ = .ok (.bl (b || b2)) := by
  cases b with
  | true => exact orD_t h1
  | false => exact orD_f h1 h2
theorem andQ {b2 : Bool} (h1 : ta ρ = .ok b) (h2 : tb ρ = .ok b2) : andT ta tb ρ = .ok (b && b2) := by
  cases b with
  | true => exact andT_t h1 h2
  | false => exact andT_f h1
theorem orQ {b2 : Bool} (h1 : ta ρ = .ok b) (h2 : tb ρ = .ok b2) : orT ta tb ρ = .ok (b || b2) := by
  cases b with
  | true => exact orT_t h1
  | false => exact orT_f h1 h2
theorem Sm.and (h1 : fa ρ = .ok (.bl b)) (h2 : Sm w eB m (fb ρ)) : Sm w eB (if b = true then m else .ok false) (andD fa fb ρ) := by
  cases b with
  | true => rw [if_pos rfl, andD_t h1 rfl]; exact h2
  | false => exact andD_f h1
theorem Sm.or (h1 : fa ρ = .ok (.bl b)) (h2 : Sm w eB m (fb ρ)) : Sm w eB (if b = true then .ok true else m) (orD fa fb ρ) := by
  cases b with
  | true => exact orD_t h1
  | false => rw [if_neg Bool.false_ne_true, orD_f h1 rfl]; exact h2
theorem Sm.andT (h1 : ta ρ = .ok b) (h2 : Sm w id m (tb ρ)) : Sm w id (if b = true then m else .ok false) (FL.andT ta tb ρ) := by
  cases b with
  | true => rw [if_pos rfl, andT_t h1 rfl]; exact h2
  | false => exact andT_f h1
theorem Sm.orT (h1 : ta ρ = .ok b) (h2 : Sm w id m (tb ρ)) : Sm w id (if b = true then .ok true else m) (FL.orT ta tb ρ) := by
  cases b with
  | true => exact orT_t h1
  | false => rw [if_neg Bool.false_ne_true, orT_f h1 rfl]; exact h2
theorem ifP {e : α → D} {x y : α} (h : ta ρ = .ok b) (h1 : fa ρ = .ok (e x)) (h2 : fb ρ = .ok (e y)) : ifD ta fa fb ρ = .ok (e (if b = true then x else y)) := by
  unfold ifD; rw [h, Res.bind_ok]
  cases b with
  | true => exact h1
  | false => exact h2
theorem Sm.ifD {e : α → D} {m1 m2 : Res α} (h : ta ρ = .ok b) (h1 : Sm w e m1 (fa ρ)) (h2 : Sm w e m2 (fb ρ)) : Sm w e (if b = true then m1 else m2) (FL.ifD ta fa fb ρ) := by
  unfold FL.ifD; rw [h, Res.bind_ok]
  cases b with
  | true => rw [if_pos rfl, if_pos rfl]; exact h1
  | false => rw [if_neg Bool.false_ne_true, if_neg Bool.false_ne_true]; exact h2
theorem borQ {t : En → Res Bool} {ρ' : En} (hf : frz ρ = ρ') (h : Sm False id m (t ρ')) : Sm False id m (borT t ρ) := by
  cases m with
  | ok a => exact borT_ok (by rw [hf]; exact h)
  | ex x => exact fun z => z.elim
  | bad => exact trivial
theorem borP {f : En → Res D} {e : α → D} {m : Res α} {ρ' : En} (fl : ∀ a, flat (e a) = true) (hf : frz ρ = ρ') (h : Sm False e m (f ρ')) : Sm False e m (bor f ρ) := by
  cases m with
  | ok a => exact bor_ok (by rw [hf]; exact h) (fl a)
  | ex x => exact fun z => z.elim
  | bad => exact trivial
theorem borS {f : En → Res OT} {e : α → OT} {m : Res α} {ρ' : En} (fl : ∀ a, flatT (e a) = true) (hf : frz ρ = ρ') (h : Sm False e m (f ρ')) : Sm False e m (borO f ρ) := by
  cases m with
  | ok a => exact borO_ok (by rw [hf]; exact h) (fl a)
  | ex x => exact fun z => z.elim
  | bad => exact trivial
theorem borPi {f : En → Res D} {e : α → D} {m : Res α} {ρ' : En} (fl : ∀ a, imm (e a) = true) (hn : noE ρ = true) (hf : frz ρ = ρ') (h : Sm False e m (f ρ')) : Sm False e m (bor f ρ) := by
  cases m with
  | ok a => exact bor_okI (by rw [hf]; exact h) (fl a) hn
  | ex x => exact fun z => z.elim
  | bad => exact trivial
theorem borSi {f : En → Res OT} {e : α → OT} {m : Res α} {ρ' : En} (fl : ∀ a, immT (e a) = true) (hn : noE ρ = true) (hf : frz ρ = ρ') (h : Sm False e m (f ρ')) : Sm False e m (borO f ρ) := by
  cases m with
  | ok a => exact borO_okI (by rw [hf]; exact h) (fl a) hn
  | ex x => exact fun z => z.elim
  | bad => exact trivial
theorem borQp {t : En → Res Bool} {ρ' : En} (hf : frz ρ = ρ') (h : t ρ' = .ok b) : borT t ρ = .ok b := borT_ok (by rw [hf]; exact h)
theorem borPp {f : En → Res D} {d : D} {ρ' : En} (fl : flat d = true) (hf : frz ρ = ρ') (h : f ρ' = .ok d) : bor f ρ = .ok d := bor_ok (by rw [hf]; exact h) fl
theorem borPip {f : En → Res D} {d : D} {ρ' : En} (fl : imm d = true) (hn : noE ρ = true) (hf : frz ρ = ρ') (h : f ρ' = .ok d) : bor f ρ = .ok d := bor_okI (by rw [hf]; exact h) fl hn
theorem borSp {f : En → Res OT} {o : OT} {ρ' : En} (fl : flatT o = true) (hf : frz ρ = ρ') (h : f ρ' = .ok o) : borO f ρ = .ok o := borO_ok (by rw [hf]; exact h) fl
theorem borSip {f : En → Res OT} {o : OT} {ρ' : En} (fl : immT o = true) (hn : noE ρ = true) (hf : frz ρ = ρ') (h : f ρ' = .ok o) : borO f ρ = .ok o := borO_okI (by rw [hf]; exact h) fl hn
theorem chP {g g' : D → D → Option D} {fc : En → Res D} {x y z : D} {b2 : Bool} (h1 : fa ρ = .ok x) (h2 : fb ρ = .ok y) (h3 : g x y = some (.bl b)) (h4 : fc ρ = .ok z) (h5 : g' y z = some (.bl b2)) : chD g g' fa fb fc ρ = .ok (.bl (b && b2)) := ev_ch h1 h2 h3 h4 h5
end
theorem flatTs_oD {e : α → D} (h : ∀ a, flat (e a) = true) (l : List α) : flatTs (l.map (oD e)) = true := by
  induction l with
  | nil => rfl
  | cons a l ih => rw [List.map_cons, flatTs, ih, Bool.and_true]; exact h a
theorem flatL {e : α → D} (h : ∀ a, flat (e a) = true) (l : List α) : flatT (oL (oD e) l) = true := by
  unfold oL; rw [flatT, flatTs_oD h]
/-! ### lists of arguments -/
theorem cnsP {fa : En → Res D} {fs : En → Res (List D)} {ρ : En} {d : D} {zs : List D} (h : fa ρ = .ok d) (h2 : fs ρ = .ok zs) : consA fa fs ρ = .ok (d :: zs) := consE h h2
theorem nilE {ρ : En} : nilA ρ = .ok [] := rfl
theorem calP {g : List D → Option α} {fs : En → Res (List D)} {ρ : En} {ds : List D} {x : α} (h : fs ρ = .ok ds) (hg : g ds = some x) : cal g fs ρ = .ok x := by
  unfold cal; rw [h, Res.bind_ok, hg]; rfl
theorem mapE {e : α → D} {fs : En → Res (List D)} {ρ : En} {l : List α} {ds : List D} (h : fs ρ = .ok ds) (hl : ds = l.map e) : fs ρ = .ok (l.map e) := by rw [h, hl]
/-- something that may be stuck, at data -/
theorem Sm.op1 {g : D → Option D} {fa : En → Res D} {ρ : En} {e : α → D} {m : Res α} {x : D} (ha : fa ρ = .ok x) (hg : ∀ a, m = .ok a → g x = some (e a)) : Sm False e m (FL.op1 g fa ρ) := by
  cases m with
  | ok a => exact op1E ha (hg a rfl)
  | ex x => exact fun z => z.elim
  | bad => exact trivial
theorem Sm.op2 {g : D → D → Option D} {fa fb : En → Res D} {ρ : En} {e : α → D} {m : Res α} {x y : D} (ha : fa ρ = .ok x) (hb : fb ρ = .ok y) (hg : ∀ a, m = .ok a → g x y = some (e a)) : Sm False e m (FL.op2 g fa fb ρ) := by
  cases m with
  | ok a => exact op2E ha hb (hg a rfl)
  | ex x => exact fun z => z.elim
  | bad => exact trivial
theorem Sm.op2O {g : D → D → Option OT} {fa fb : En → Res D} {ρ : En} {e : α → OT} {m : Res α} {x y : D} (ha : fa ρ = .ok x) (hb : fb ρ = .ok y) (hg : ∀ a, m = .ok a → g x y = some (e a)) : Sm False e m (FL.op2O g fa fb ρ) := by
  cases m with
  | ok a => unfold FL.op2O; rw [ha, Res.bind_ok, hb, Res.bind_ok, hg a rfl]; rfl
  | ex x => exact fun z => z.elim
  | bad => exact trivial
theorem Sm.cal {g : List D → Option β} {fs : En → Res (List D)} {ρ : En} {e : α → β} {m : Res α} {ds : List D} (h : fs ρ = .ok ds) (hg : ∀ a, m = .ok a → g ds = some (e a)) : Sm False e m (FL.cal g fs ρ) := by
  cases m with
  | ok a => exact calP h (hg a rfl)
  | ex x => exact fun z => z.elim
  | bad => exact trivial
theorem Sm.itA {g : List D → Option (List D)} {fs : En → Res (List D)} {ρ : En} {e : α → List D} {m : Res α} {ds : List D} (h : fs ρ = .ok ds) (hg : ∀ a, m = .ok a → g ds = some (e a)) : Sm False e m (FL.itA g fs ρ) := by
  cases m with
  | ok a => unfold FL.itA; rw [h, Res.bind_ok, hg a rfl]; rfl
  | ex x => exact fun z => z.elim
  | bad => exact trivial
theorem itAP {g : List D → Option (List D)} {fs : En → Res (List D)} {ρ : En} {ds xs : List D} (h : fs ρ = .ok ds) (hg : g ds = some xs) : itA g fs ρ = .ok xs := by
  unfold itA; rw [h, Res.bind_ok, hg]; rfl
theorem sliP {fa : En → Res D} {fl fh : En → Res (Option Int)} {ρ : En} {x y : D} {lo hi : Option Int} (ha : fa ρ = .ok x) (hl : fl ρ = .ok lo) (hh : fh ρ = .ok hi) (hg : slD x lo hi = some y) : sli fa fl fh ρ = .ok y := by
  unfold sli; rw [ha, Res.bind_ok, hl, Res.bind_ok, hh, Res.bind_ok, hg]; rfl
theorem sliOP {fa : En → Res D} {fl fh : En → Res (Option Int)} {ρ : En} {x : D} {y : OT} {lo hi : Option Int} (ha : fa ρ = .ok x) (hl : fl ρ = .ok lo) (hh : fh ρ = .ok hi) (hg : slO x lo hi = some y) : sliO fa fl fh ρ = .ok y := by
  unfold sliO; rw [ha, Res.bind_ok, hl, Res.bind_ok, hh, Res.bind_ok, hg]; rfl
theorem Sm.sli {fa : En → Res D} {fl fh : En → Res (Option Int)} {ρ : En} {e : α → D} {m : Res α} {x : D} {lo hi : Option Int} (ha : fa ρ = .ok x) (hl : fl ρ = .ok lo) (hh : fh ρ = .ok hi) (hg : ∀ a, m = .ok a → slD x lo hi = some (e a)) : Sm False e m (FL.sli fa fl fh ρ) := by
  cases m with
  | ok a => exact sliP ha hl hh (hg a rfl)
  | ex x => exact fun z => z.elim
  | bad => exact trivial
theorem partP {f : En → Res D} {ρ : En} {i : Int} (h : f ρ = .ok (.int i)) : part f ρ = .ok (some i) := by
  unfold part; rw [h]; rfl
/-! ### comprehensions -/
/-- what comes of a list where the test holds -/
def comp (p : α → Res Bool) (q : α → Res β) : List α → Res (List β)
  | [] => .ok []
  | x :: xs => match p x with
    | .ok true => nb (q x) fun y => nb (comp p q xs) fun ys => .ok (y :: ys)
    | .ok false => comp p q xs
    | _ => .bad
theorem comp_ok {p : α → Res Bool} {q : α → Res β} {p' : α → Bool} {q' : α → β} : ∀ {xs : List α}, (∀ x ∈ xs, p x = .ok (p' x) ∧ (p' x = true → q x = .ok (q' x))) → comp p q xs = .ok ((xs.filter p').map q')
  | [], _ => rfl
  | x :: xs, h => by
    obtain ⟨h1, h2⟩ := h x List.mem_cons_self
    have ih := comp_ok (p := p) (q := q) (xs := xs) fun y hy => h y (List.mem_cons_of_mem _ hy)
    unfold comp
    rw [h1]
    cases e : p' x with
    | true =>
      rw [List.filter_cons_of_pos e]
      dsimp only
      rw [h2 e, ih]; rfl
    | false =>
      rw [List.filter_cons_of_neg (by rw [e]; exact Bool.false_ne_true)]
      exact ih
theorem comp_map {q : α → Res β} {q' : α → β} {xs : List α} (h : ∀ x ∈ xs, q x = .ok (q' x)) : comp (fun _ => .ok true) q xs = .ok (xs.map q') := by
  rw [comp_ok (p' := fun _ => true) (q' := q') fun x hx => ⟨rfl, fun _ => h x hx⟩]
  congr 2
  exact List.filter_eq_self.mpr fun _ _ => rfl
theorem lcL_comp {g : D → En → Option En} {tt : En → Res Bool} {fe : En → Res OT} {ρ : En} {e : α → D} {eo : β → OT} {p : α → Res Bool} {q : α → Res β} (h : ∀ a, ∃ ρ1, g (e a) ρ = some ρ1 ∧ Sm False id (p a) (tt ρ1) ∧ Sm False eo (q a) (fe ρ1)) : ∀ {xs : List α} {ys : List β}, comp p q xs = .ok ys → lcL g tt fe ρ (xs.map e) = some (ys.map eo)
  | [], ys, hx => by cases hx; rfl
  | x :: xs, ys, hx => by
    obtain ⟨ρ1, h1, h2, h3⟩ := h x
    unfold comp at hx
    rw [List.map_cons]
    unfold lcL
    rw [h1, Option.bind_some]
    cases e1 : p x with
    | ok b =>
      rw [e1] at hx h2
      rw [show tt ρ1 = .ok b from h2]
      cases b with
      | true =>
        obtain ⟨y, e2, hx⟩ := nb_eq_ok hx
        obtain ⟨zs, e3, hx⟩ := nb_eq_ok hx
        cases hx
        rw [e2] at h3
        rw [show fe ρ1 = .ok (eo y) from h3]
        dsimp only
        rw [lcL_comp h e3]; rfl
      | false => exact lcL_comp h hx
    | ex x => rw [e1] at hx; cases hx
    | bad => rw [e1] at hx; cases hx
theorem Sm.comp {vs : List Nat} {fi : En → Res (List D)} {g : D → En → Option En} {tt : En → Res Bool} {fe : En → Res OT} {ρ : En} {e : α → D} {eo : β → OT} {xs : List α} {p : α → Res Bool} {q : α → Res β} (hi : fi ρ = .ok (xs.map e))
    (h : ∀ a, ∃ ρ1, g (e a) (wipeE ρ vs) = some ρ1 ∧ Sm False id (p a) (tt ρ1) ∧ Sm False eo (q a) (fe ρ1)) : Sm False (oL eo) (FL.comp p q xs) (lcD vs fi g tt fe ρ) := by
  cases e1 : FL.comp p q xs with
  | ok ys => exact lcD_ok hi (lcL_comp h e1)
  | ex x => exact fun z => z.elim
  | bad => exact trivial
theorem compP {vs : List Nat} {fi : En → Res (List D)} {g : D → En → Option En} {tt : En → Res Bool} {fe : En → Res OT} {ρ : En} {e : α → D} {eo : β → OT} {xs : List α} (p : α → Bool) (q : α → β) (hi : fi ρ = .ok (xs.map e))
    (h : ∀ a, ∃ ρ1, g (e a) (wipeE ρ vs) = some ρ1 ∧ tt ρ1 = .ok (p a) ∧ fe ρ1 = .ok (eo (q a))) : lcD vs fi g tt fe ρ = .ok (oL eo ((xs.filter p).map q)) := by
  have c := Sm.comp (p := fun a => .ok (p a)) (q := fun a => .ok (q a)) (eo := eo) hi h
  rw [comp_ok (p' := p) (q' := q) fun x _ => ⟨rfl, fun _ => rfl⟩] at c
  exact c
theorem compY {vs : List Nat} {fi : En → Res (List D)} {g : D → En → Option En} {fe : En → Res OT} {ρ : En} {e : α → D} {eo : β → OT} {xs : List α} (q : α → β) (hi : fi ρ = .ok (xs.map e))
    (h : ∀ a, ∃ ρ1, g (e a) (wipeE ρ vs) = some ρ1 ∧ fe ρ1 = .ok (eo (q a))) : lcD vs fi g yes fe ρ = .ok (oL eo (xs.map q)) := by
  have c := Sm.comp (p := fun _ => .ok true) (q := fun a => .ok (q a)) (eo := eo) (tt := yes) hi fun a => by
    obtain ⟨ρ1, h1, h2⟩ := h a
    exact ⟨ρ1, h1, rfl, h2⟩
  rw [comp_map (q' := q) fun x _ => rfl] at c
  exact c
/-- .. where nothing is made otherwise of the items -/
theorem compF {vs : List Nat} {fi : En → Res (List D)} {g : D → En → Option En} {tt : En → Res Bool} {fe : En → Res OT} {ρ : En} {e : α → D} {xs : List α} (p : α → Bool) (hi : fi ρ = .ok (xs.map e))
    (h : ∀ a, ∃ ρ1, g (e a) (wipeE ρ vs) = some ρ1 ∧ tt ρ1 = .ok (p a) ∧ fe ρ1 = .ok (.d (e a))) : lcD vs fi g tt fe ρ = .ok (oL (oD e) (xs.filter p)) := by
  have c := compP (eo := oD e) p (fun a => a) hi h
  rw [List.map_id'] at c
  exact c
theorem compI {vs : List Nat} {fi : En → Res (List D)} {g : D → En → Option En} {fe : En → Res OT} {ρ : En} {e : α → D} {xs : List α} (hi : fi ρ = .ok (xs.map e))
    (h : ∀ a, ∃ ρ1, g (e a) (wipeE ρ vs) = some ρ1 ∧ fe ρ1 = .ok (.d (e a))) : lcD vs fi g yes fe ρ = .ok (oL (oD e) xs) := by
  have c := compY (eo := oD e) (fun a => a) hi h
  rw [List.map_id'] at c
  exact c
end
end FL
/-! The typed layer, part B: statements. -/
namespace FL
open PySem PySem.Spec PyProof.Rows L2
/-- how a block of a loop ends -/
inductive Fl (σ R : Type) where
  | nx (s : σ) | bk (s : σ) | rt (r : R)
/-- what a typed block says of a flow -/
structure Tg (β : Type) where
  Q : Res β → Flw → Prop
  w : Prop
  X : En → Prop
  bad : ∀ f, Q .bad f
  exw : ∀ x f, (w → ∃ ρ, f = .ex x ρ ∧ X ρ) → Q (.ex x) f
section
variable {α β γ δ σ τ R : Type}
/-- a def's end -/
def tgR (w : Prop) (X : En → Prop) (er : R → OT → En → Prop) : Tg R where
  Q m f := match m with
    | .ok r => ∃ ρ, (f = .nx ρ ∧ er r (.d .non) ρ) ∨ ∃ o, f = .rt o ρ ∧ er r o ρ
    | .ex x => w → ∃ ρ, f = .ex x ρ ∧ X ρ
    | .bad => True
  w := w
  X := X
  bad _ := trivial
  exw _ _ h := h
/-- a loop's body's end -/
def tgB (w : Prop) (X : En → Prop) (er : R → OT → En → Prop) (N : σ → En → Prop) : Tg (Fl σ R) where
  Q m f := match m with
    | .ok (.nx s) => ∃ ρ, (f = .nx ρ ∨ f = .ct ρ) ∧ N s ρ
    | .ok (.bk s) => ∃ ρ, f = .bk ρ ∧ N s ρ
    | .ok (.rt r) => ∃ o ρ, f = .rt o ρ ∧ er r o ρ
    | .ex x => w → ∃ ρ, f = .ex x ρ ∧ X ρ
    | .bad => True
  w := w
  X := X
  bad _ := trivial
  exw _ _ h := h
/-- .. that is not left -/
def tgP (w : Prop) (X : En → Prop) (N : σ → En → Prop) : Tg σ where
  Q m f := match m with
    | .ok s => ∃ ρ, (f = .nx ρ ∨ f = .ct ρ) ∧ N s ρ
    | .ex x => w → ∃ ρ, f = .ex x ρ ∧ X ρ
    | .bad => True
  w := w
  X := X
  bad _ := trivial
  exw _ _ h := h
/-- a part's end -/
def tgJ (w : Prop) (X : En → Prop) (N : σ → En → Prop) : Tg σ where
  Q m f := match m with
    | .ok s => ∃ ρ, f = .nx ρ ∧ N s ρ
    | .ex x => w → ∃ ρ, f = .ex x ρ ∧ X ρ
    | .bad => True
  w := w
  X := X
  bad _ := trivial
  exw _ _ h := h
variable {w : Prop} {X : En → Prop} {er : R → OT → En → Prop} {N : σ → En → Prop} {ρ ρ' : En}
/-- what is known of a target -/
structure IsR (T : Tg R) (er : R → OT → En → Prop) : Prop where
  rt : ∀ {r o ρ}, er r o ρ → T.Q (.ok r) (.rt o ρ)
  nx : ∀ {r ρ}, er r (.d .non) ρ → T.Q (.ok r) (.nx ρ)
  X : ∀ ρ, T.X ρ
structure IsB (T : Tg (Fl σ R)) (X : En → Prop) (er : R → OT → En → Prop) (N : σ → En → Prop) : Prop where
  rt : ∀ {r o ρ}, er r o ρ → T.Q (.ok (.rt r)) (.rt o ρ)
  nx : ∀ {s ρ}, N s ρ → T.Q (.ok (.nx s)) (.nx ρ)
  ct : ∀ {s ρ}, N s ρ → T.Q (.ok (.nx s)) (.ct ρ)
  bk : ∀ {s ρ}, N s ρ → T.Q (.ok (.bk s)) (.bk ρ)
  X : ∀ {ρ}, X ρ → T.X ρ
structure IsP (T : Tg σ) (X : En → Prop) (N : σ → En → Prop) : Prop where
  nx : ∀ {s ρ}, N s ρ → T.Q (.ok s) (.nx ρ)
  ct : ∀ {s ρ}, N s ρ → T.Q (.ok s) (.ct ρ)
  X : ∀ {ρ}, X ρ → T.X ρ
structure IsJ (T : Tg σ) (X : En → Prop) (N : σ → En → Prop) : Prop where
  nx : ∀ {s ρ}, N s ρ → T.Q (.ok s) (.nx ρ)
  X : ∀ {ρ}, X ρ → T.X ρ
theorem tgR.rt {r : R} {o : OT} (h : er r o ρ) : (tgR w X er).Q (.ok r) (.rt o ρ) := ⟨ρ, .inr ⟨o, rfl, h⟩⟩
theorem tgR.nx {r : R} (h : er r (.d .non) ρ) : (tgR w X er).Q (.ok r) (.nx ρ) := ⟨ρ, .inl ⟨rfl, h⟩⟩
theorem tgB.rt {r : R} {o : OT} (h : er r o ρ) : (tgB w X er N).Q (.ok (.rt r)) (.rt o ρ) := ⟨o, ρ, rfl, h⟩
theorem tgB.nx {s : σ} (h : N s ρ) : (tgB w X er N).Q (.ok (.nx s)) (.nx ρ) := ⟨ρ, .inl rfl, h⟩
theorem tgB.ct {s : σ} (h : N s ρ) : (tgB w X er N).Q (.ok (.nx s)) (.ct ρ) := ⟨ρ, .inr rfl, h⟩
theorem tgB.bk {s : σ} (h : N s ρ) : (tgB w X er N).Q (.ok (.bk s)) (.bk ρ) := ⟨ρ, rfl, h⟩
theorem tgP.nx {s : σ} (h : N s ρ) : (tgP w X N).Q (.ok s) (.nx ρ) := ⟨ρ, .inl rfl, h⟩
theorem tgP.ct {s : σ} (h : N s ρ) : (tgP w X N).Q (.ok s) (.ct ρ) := ⟨ρ, .inr rfl, h⟩
theorem tgJ.nx {s : σ} (h : N s ρ) : (tgJ w X N).Q (.ok s) (.nx ρ) := ⟨ρ, rfl, h⟩
theorem tgR.is : IsR (tgR w (fun _ => True) er) er := ⟨tgR.rt, tgR.nx, fun _ => trivial⟩
theorem tgB.is : IsB (tgB w X er N) X er N := ⟨tgB.rt, tgB.nx, tgB.ct, tgB.bk, fun h => h⟩
theorem tgP.is : IsP (tgP w X N) X N := ⟨tgP.nx, tgP.ct, fun h => h⟩
theorem tgJ.is : IsJ (tgJ w X N) X N := ⟨tgJ.nx, fun h => h⟩
end
section
variable {α β γ δ σ τ R : Type} {T : Tg β} {m : Res β} {A B C F fA fB : En → Flw} {ρ ρ' : En} {i : Nat}
theorem seq_nil : seqF .nx F ρ = F ρ := rfl
theorem seq_one : seqF A .nx ρ = A ρ := by
  unfold seqF
  cases A ρ <;> rfl
theorem seq_assoc : seqF (seqF A B) C ρ = seqF A (seqF B C) ρ := by
  unfold seqF
  cases A ρ <;> rfl
theorem Tg.one (h : T.Q m (seqF A .nx ρ)) : T.Q m (A ρ) := by rw [seq_one] at h; exact h
theorem Tg.assoc (h : T.Q m (seqF A (seqF B C) ρ)) : T.Q m (seqF (seqF A B) C ρ) := by rw [seq_assoc]; exact h
theorem Tg.nil (h : T.Q m (F ρ)) : T.Q m (seqF .nx F ρ) := h
theorem Tg.sfg (h : T.Q m (seqF A F (ρ.set i none))) : T.Q m (seqF (fgF i A) F ρ) := h
theorem Tg.sfz {o : OT} {x : D} (e : ρ[i]? = some (some o)) (z : fz o = x) (h : T.Q m (seqF A F (ρ.set i (some (.d x))))) : T.Q m (seqF (fzF i A) F ρ) := by
  have : seqF (fzF i A) F ρ = seqF A F (frzAt i ρ) := rfl
  rw [this]; unfold frzAt; rw [e]; dsimp only; rw [z]; exact h
theorem Tg.fg (h : T.Q m (F (ρ.set i none))) : T.Q m (fgF i F ρ) := h
theorem Tg.fz {o : OT} {x : D} (e : ρ[i]? = some (some o)) (z : fz o = x) (h : T.Q m (F (ρ.set i (some (.d x))))) : T.Q m (fzF i F ρ) := by
  unfold fzF frzAt; rw [e]; dsimp only; rw [z]; exact h
theorem Tg.nb {e : α → δ} {r1 : Res δ} {m1 : Res α} {K : α → Res β} {f : Flw} (h : Sm False e m1 r1) (k : ∀ a, r1 = .ok (e a) → T.Q (K a) f) : T.Q (nb m1 K) f := by
  cases m1 with
  | ok a => exact k a h
  | ex x => exact T.bad f
  | bad => exact T.bad f
theorem Tg.nz {e : α → D} {r1 : Res OT} {m1 : Res α} {K : α → Res β} {f : Flw} (h : Sz False e m1 r1) (k : ∀ a o, r1 = .ok o → FL.fz o = e a → T.Q (K a) f) : T.Q (FL.nb m1 K) f := by
  cases m1 with
  | ok a => obtain ⟨o, h1, h2⟩ := h; exact k a o h1 h2
  | ex x => exact T.bad f
  | bad => exact T.bad f
/-- what may be stuck, with no reading -/
theorem Tg.nq {m1 : Res α} {K : α → Res β} {f : Flw} (k : ∀ a, m1 = .ok a → T.Q (K a) f) : T.Q (FL.nb m1 K) f := by
  cases m1 with
  | ok a => exact k a rfl
  | ex x => exact T.bad f
  | bad => exact T.bad f
theorem Tg.asg {e : α → D} {t : α} {f : En → Res D} {K : α → Res β} (h : f ρ = .ok (e t)) (k : ∀ x, T.Q (K x) (F (ρ.set i (some (.d (e x)))))) : T.Q (FL.nb (.ok t) K) (seqF (asg i f) F ρ) := by
  rw [seq_nx (asg_ok h) rfl]; exact k t
theorem Tg.asgO {e : α → OT} {t : α} {f : En → Res OT} {K : α → Res β} (h : f ρ = .ok (e t)) (k : ∀ x, T.Q (K x) (F (ρ.set i (some (e x))))) : T.Q (FL.nb (.ok t) K) (seqF (asgO i f) F ρ) := by
  rw [seq_nx (asgO_ok h) rfl]; exact k t
theorem Tg.asgZ {o : OT} {t : α} {f : En → Res OT} {K : α → Res β} (h : f ρ = .ok o) (k : ∀ x, T.Q (K x) (F (ρ.set i (some o)))) : T.Q (FL.nb (.ok t) K) (seqF (FL.asgO i f) F ρ) := by
  rw [seq_nx (asgO_ok h) rfl]; exact k t
/-- .. what may raise -/
theorem Tg.asgS {e : α → D} {m1 : Res α} {f : En → Res D} {K : α → Res β} (h : Sm True e m1 (f ρ)) (hx : T.X ρ) (k : ∀ x, T.Q (K x) (F (ρ.set i (some (.d (e x)))))) : T.Q (m1.bind K) (seqF (FL.asg i f) F ρ) := by
  cases m1 with
  | ok a => rw [seq_nx (asg_ok h) rfl]; exact k a
  | ex x => exact T.exw x _ fun _ => ⟨ρ, seq_ex (asg_ex (h trivial)), hx⟩
  | bad => exact T.bad _
theorem Tg.asgOS {e : α → OT} {m1 : Res α} {f : En → Res OT} {K : α → Res β} (h : Sm True e m1 (f ρ)) (hx : T.X ρ) (k : ∀ x, T.Q (K x) (F (ρ.set i (some (e x))))) : T.Q (m1.bind K) (seqF (FL.asgO i f) F ρ) := by
  cases m1 with
  | ok a => rw [seq_nx (asgO_ok h) rfl]; exact k a
  | ex x => exact T.exw x _ fun _ => ⟨ρ, seq_ex (asgO_ex (h trivial)), hx⟩
  | bad => exact T.bad _
theorem Tg.asgZS {e : α → D} {m1 : Res α} {f : En → Res OT} {K : α → Res β} (h : Sz True e m1 (f ρ)) (hx : T.X ρ) (k : ∀ x o, FL.fz o = e x → T.Q (K x) (F (ρ.set i (some o)))) : T.Q (m1.bind K) (seqF (FL.asgO i f) F ρ) := by
  cases m1 with
  | ok a => obtain ⟨o, h1, h2⟩ := h; rw [seq_nx (asgO_ok h1) rfl]; exact k a o h2
  | ex x => exact T.exw x _ fun _ => ⟨ρ, seq_ex (asgO_ex (h trivial)), hx⟩
  | bad => exact T.bad _
theorem Tg.drp {f : En → Res D} {d : D} (h : f ρ = .ok d) (k : T.Q m (F ρ)) : T.Q m (seqF (FL.drp f) F ρ) := by
  rw [seq_nx (drp_ok h) rfl]; exact k
theorem Tg.drpS {e : α → D} {m1 : Res α} {f : En → Res D} (h : Sm True e m1 (f ρ)) (hx : T.X ρ) (k : T.Q m (F ρ)) : T.Q (m1.bind fun _ => m) (seqF (FL.drp f) F ρ) := by
  cases m1 with
  | ok a => rw [seq_nx (drp_ok h) rfl]; exact k
  | ex x => exact T.exw x _ fun _ => ⟨ρ, seq_ex (drp_ex (h trivial)), hx⟩
  | bad => exact T.bad _
/-- targets -/
theorem Tg.asgG {f : En → Res D} {d : D} {g : D → En → Option En} {ρ1 : En} (h : f ρ = .ok d) (hg : g d ρ = some ρ1) (k : T.Q m (F ρ1)) : T.Q m (seqF (FL.asgG g f) F ρ) := by
  rw [seq_nx (asgG_ok h hg) rfl]; exact k
theorem Tg.par2 {j : Nat} {f g : En → Res OT} {o o' : OT} (h : f ρ = .ok o) (h2 : g ρ = .ok o') (k : T.Q m (F ((ρ.set i (some o)).set j (some o')))) : T.Q m (seqF (parO2 i j f g) F ρ) := by
  rw [seq_nx (f := parO2 i j f g) (ρ' := (ρ.set i (some o)).set j (some o')) (by unfold parO2; rw [h, bindF_ok, h2, bindF_ok]) rfl]; exact k
theorem Tg.par3 {j l : Nat} {f g h' : En → Res OT} {o o' o2 : OT} (h : f ρ = .ok o) (h2 : g ρ = .ok o') (h3 : h' ρ = .ok o2) (k : T.Q m (F (((ρ.set i (some o)).set j (some o')).set l (some o2)))) : T.Q m (seqF (parO3 i j l f g h') F ρ) := by
  rw [seq_nx (f := parO3 i j l f g h') (ρ' := ((ρ.set i (some o)).set j (some o')).set l (some o2)) (by unfold parO3; rw [h, bindF_ok, h2, bindF_ok, h3, bindF_ok]) rfl]; exact k
/-! ends -/
theorem Tg.ret {f : En → Res D} {d : D} (h : f ρ = .ok d) (q : T.Q m (.rt (.d d) ρ)) : T.Q m (FL.ret f ρ) := by rw [ret_ok h]; exact q
theorem Tg.retO {f : En → Res OT} {o : OT} (h : f ρ = .ok o) (q : T.Q m (.rt o ρ)) : T.Q m (FL.retO f ρ) := by rw [retO_ok h]; exact q
theorem Tg.retM {o : OT} (h : ρ[i]? = some (some o)) (q : T.Q m (.rt o (ρ.set i none))) : T.Q m (FL.retM i ρ) := by rw [retM_ok h]; exact q
theorem Tg.sret {f : En → Res D} {d : D} (h : f ρ = .ok d) (q : T.Q m (.rt (.d d) ρ)) : T.Q m (seqF (FL.ret f) F ρ) := by rw [seq_rt (ret_ok h)]; exact q
theorem Tg.sretO {f : En → Res OT} {o : OT} (h : f ρ = .ok o) (q : T.Q m (.rt o ρ)) : T.Q m (seqF (FL.retO f) F ρ) := by rw [seq_rt (retO_ok h)]; exact q
theorem Tg.sretM {o : OT} (h : ρ[i]? = some (some o)) (q : T.Q m (.rt o (ρ.set i none))) : T.Q m (seqF (FL.retM i) F ρ) := by rw [seq_rt (retM_ok h)]; exact q
theorem Tg.sretN (q : T.Q m (.rt (.d .non) ρ)) : T.Q m (seqF FL.retN F ρ) := q
theorem Tg.sbk (q : T.Q m (.bk ρ)) : T.Q m (seqF .bk F ρ) := q
theorem Tg.sct (q : T.Q m (.ct ρ)) : T.Q m (seqF .ct F ρ) := q
theorem Tg.sra {c : Str} (hx : T.X ρ) : T.Q (.ex ⟨c, none⟩) (seqF (raF c) F ρ) := T.exw _ _ fun _ => ⟨ρ, rfl, hx⟩
/-- what is handed on as it comes -/
theorem Tg.sretS {e : α → D} {m1 : Res α} {f : En → Res D} {K : α → Res β} (h : Sm True e m1 (f ρ)) (hx : T.X ρ) (q : ∀ a, T.Q (K a) (.rt (.d (e a)) ρ)) : T.Q (m1.bind K) (seqF (FL.ret f) F ρ) := by
  cases m1 with
  | ok a => rw [seq_rt (ret_ok h)]; exact q a
  | ex x => exact T.exw x _ fun _ => ⟨ρ, seq_ex (ret_ex (h trivial)), hx⟩
  | bad => exact T.bad _
theorem Tg.sretOS {e : α → OT} {m1 : Res α} {f : En → Res OT} {K : α → Res β} (h : Sm True e m1 (f ρ)) (hx : T.X ρ) (q : ∀ a, T.Q (K a) (.rt (e a) ρ)) : T.Q (m1.bind K) (seqF (FL.retO f) F ρ) := by
  cases m1 with
  | ok a => rw [seq_rt (retO_ok h)]; exact q a
  | ex x => exact T.exw x _ fun _ => ⟨ρ, seq_ex (retO_ex (h trivial)), hx⟩
  | bad => exact T.bad _
theorem Tg.sretZS {e : α → D} {m1 : Res α} {f : En → Res OT} {K : α → Res β} (h : Sz True e m1 (f ρ)) (hx : T.X ρ) (q : ∀ a o, FL.fz o = e a → T.Q (K a) (.rt o ρ)) : T.Q (m1.bind K) (seqF (FL.retO f) F ρ) := by
  cases m1 with
  | ok a => obtain ⟨o, h1, h2⟩ := h; rw [seq_rt (retO_ok h1)]; exact q a o h2
  | ex x => exact T.exw x _ fun _ => ⟨ρ, seq_ex (retO_ex (h trivial)), hx⟩
  | bad => exact T.bad _
/-! if -/
theorem Tg.ite {t : En → Res Bool} {b : Bool} {m2 : Res β} (h : t ρ = .ok b) (ha : T.Q m (seqF fA F ρ)) (hb : T.Q m2 (seqF fB F ρ)) : T.Q (if b = true then m else m2) (seqF (ifF t fA fB) F ρ) := by
  have e : seqF (ifF t fA fB) F ρ = if b = true then seqF fA F ρ else seqF fB F ρ := by
    cases b with
    | true => unfold seqF; rw [if_t h rfl]; rfl
    | false => unfold seqF; rw [if_f h rfl]; rfl
  rw [e]
  cases b with
  | true => exact ha
  | false => exact hb
theorem Tg.iteS {t : En → Res Bool} {m1 : Res Bool} {m2 : Res β} (h : Sm True id m1 (t ρ)) (hx : T.X ρ) (ha : T.Q m (seqF fA F ρ)) (hb : T.Q m2 (seqF fB F ρ)) : T.Q (m1.bind fun b => if b = true then m else m2) (seqF (ifF t fA fB) F ρ) := by
  cases m1 with
  | ok b => exact Tg.ite h ha hb
  | ex x => exact T.exw x _ fun _ => ⟨ρ, seq_ex (by unfold ifF; rw [h trivial]; rfl), hx⟩
  | bad => exact T.bad _
theorem Tg.ite1 {t : En → Res Bool} {b : Bool} {m2 : Res β} (h : t ρ = .ok b) (ha : T.Q m (fA ρ)) (hb : T.Q m2 (fB ρ)) : T.Q (if b = true then m else m2) (ifF t fA fB ρ) := by
  cases b with
  | true => rw [if_t h rfl]; exact ha
  | false => rw [if_f h rfl]; exact hb
theorem Tg.asg1 {f : En → Res D} {d : D} (h : f ρ = .ok d) (k : T.Q m (F (ρ.set i (some (.d d))))) : T.Q m (seqF (FL.asg i f) F ρ) := by
  rw [seq_nx (asg_ok h) rfl]; exact k
theorem Tg.asgO1 {f : En → Res OT} {o : OT} (h : f ρ = .ok o) (k : T.Q m (F (ρ.set i (some o)))) : T.Q m (seqF (FL.asgO i f) F ρ) := by
  rw [seq_nx (asgO_ok h) rfl]; exact k
/-- a part, then on -/
theorem Tg.jn {N : σ → En → Prop} {m1 : Res σ} {K : σ → Res β} (h : ∀ T' : Tg σ, IsJ T' T.X N → T'.Q m1 (A ρ)) (k : ∀ s ρ', N s ρ' → T.Q (K s) (F ρ')) : T.Q (m1.bind K) (seqF A F ρ) := by
  replace h := h (tgJ T.w T.X N) tgJ.is
  cases m1 with
  | ok s =>
    obtain ⟨ρ', e, n⟩ := h
    rw [seq_nx e rfl]; exact k s ρ' n
  | ex x =>
    exact T.exw x _ fun z => by
      obtain ⟨ρ', e, n⟩ := h z
      exact ⟨ρ', seq_ex e, n⟩
  | bad => exact T.bad _
/-! loops -/
/-- along a list -/
def fo (body : α → σ → Res σ) : List α → σ → Res σ
  | [], s => .ok s
  | x :: xs, s => (body x s).bind fun s' => fo body xs s'
/-- .. from which one may leave -/
def lp (body : α → σ → Res (Fl σ R)) : List α → σ → Res (Fl σ R)
  | [], s => .ok (.nx s)
  | x :: xs, s => (body x s).bind fun o => match o with
    | .nx s' => lp body xs s'
    | .bk s' => .ok (.nx s')
    | .rt r => .ok (.rt r)
/-- on behind a loop: its state, or what is handed back -/
def fin (o : Fl σ R) (K : σ → Res β) (L : R → Res β) : Res β := match o with
  | .nx s => K s
  | .bk s => K s
  | .rt r => L r
@[simp] theorem fin_nx (s : σ) (K : σ → Res β) (L : R → Res β) : fin (.nx s) K L = K s := rfl
@[simp] theorem fin_rt (r : R) (K : σ → Res β) (L : R → Res β) : fin (.rt r : Fl σ R) K L = L r := rfl
theorem fo_sim {w : Prop} {X : En → Prop} {N : σ → En → Prop} {e : α → D} {g : D → En → Option En} {body : α → σ → Res σ} (hb : ∀ a s ρ, N s ρ → ∃ ρ1, g (e a) ρ = some ρ1 ∧ (tgP w X N).Q (body a s) (F ρ1)) : ∀ (xs : List α) (s : σ) (ρ : En), N s ρ → (tgJ w X N).Q (fo body xs s) (forL g F (xs.map e) ρ)
  | [], s, ρ, h => ⟨ρ, rfl, h⟩
  | x :: xs, s, ρ, h => by
    obtain ⟨ρ1, h1, h2⟩ := hb x s ρ h
    rw [List.map_cons]
    unfold forL fo
    rw [h1]
    dsimp only
    cases e1 : body x s with
    | ok s' =>
      rw [e1] at h2
      obtain ⟨ρ2, e2, n⟩ := h2
      rw [Res.bind_ok]
      rcases e2 with e2 | e2
      · rw [e2]; exact fo_sim hb xs s' ρ2 n
      · rw [e2]; exact fo_sim hb xs s' ρ2 n
    | ex x =>
      rw [e1] at h2
      exact fun z => by
        obtain ⟨ρ2, e2, n⟩ := h2 z
        rw [e2]; exact ⟨ρ2, rfl, n⟩
    | bad => exact trivial
theorem Tg.fo {N : σ → En → Prop} {e : α → D} {g : D → En → Option En} {fi : En → Res (List D)} {xs : List α} {s0 : σ} {body : α → σ → Res σ} {K : σ → Res β} (hi : fi ρ = .ok (xs.map e)) (h0 : N s0 ρ)
    (hb : ∀ T' : Tg σ, IsP T' T.X N → ∀ a s ρ, N s ρ → ∃ ρ1, g (e a) ρ = some ρ1 ∧ T'.Q (body a s) (A ρ1)) (k : ∀ s ρ', N s ρ' → T.Q (K s) (F ρ')) : T.Q ((FL.fo body xs s0).bind K) (seqF (forF fi g A) F ρ) := by
  replace hb := hb (tgP T.w T.X N) tgP.is
  have hj := fo_sim hb xs s0 ρ h0
  cases e : FL.fo body xs s0 with
  | ok s =>
    rw [e] at hj
    obtain ⟨ρ', e2, n⟩ := hj
    rw [seq_nx ((for_ok hi).trans e2) rfl]; exact k s ρ' n
  | ex x =>
    rw [e] at hj
    exact T.exw x _ fun z => by
      obtain ⟨ρ', e2, n⟩ := hj z
      exact ⟨ρ', seq_ex ((for_ok hi).trans e2), n⟩
  | bad => exact T.bad _
theorem lp_sim {w : Prop} {X : En → Prop} {er : R → OT → En → Prop} {N : σ → En → Prop} {e : α → D} {g : D → En → Option En} {body : α → σ → Res (Fl σ R)} (hb : ∀ a s ρ, N s ρ → ∃ ρ1, g (e a) ρ = some ρ1 ∧ (tgB w X er N).Q (body a s) (F ρ1)) : ∀ (xs : List α) (s : σ) (ρ : En), N s ρ →
    match lp body xs s with
    | .ok (.nx s') => ∃ ρ', forL g F (xs.map e) ρ = .nx ρ' ∧ N s' ρ'
    | .ok (.bk s') => ∃ ρ', forL g F (xs.map e) ρ = .nx ρ' ∧ N s' ρ'
    | .ok (.rt r) => ∃ o ρ', forL g F (xs.map e) ρ = .rt o ρ' ∧ er r o ρ'
    | .ex x => w → ∃ ρ', forL g F (xs.map e) ρ = .ex x ρ' ∧ X ρ'
    | .bad => True
  | [], s, ρ, h => ⟨ρ, rfl, h⟩
  | x :: xs, s, ρ, h => by
    obtain ⟨ρ1, h1, h2⟩ := hb x s ρ h
    rw [List.map_cons]
    unfold forL lp
    rw [h1]
    dsimp only
    cases e1 : body x s with
    | ok o =>
      rw [e1] at h2
      rw [Res.bind_ok]
      cases o with
      | nx s' =>
        obtain ⟨ρ2, e2, n⟩ := h2
        rcases e2 with e2 | e2
        · rw [e2]; exact lp_sim hb xs s' ρ2 n
        · rw [e2]; exact lp_sim hb xs s' ρ2 n
      | bk s' =>
        obtain ⟨ρ2, e2, n⟩ := h2
        rw [e2]; exact ⟨ρ2, rfl, n⟩
      | rt r =>
        obtain ⟨o, ρ2, e2, n⟩ := h2
        rw [e2]; exact ⟨o, ρ2, rfl, n⟩
    | ex x =>
      rw [e1] at h2
      exact fun z => by
        obtain ⟨ρ2, e2, n⟩ := h2 z
        rw [e2]; exact ⟨ρ2, rfl, n⟩
    | bad => exact trivial
theorem Tg.fin {N : σ → En → Prop} {er : R → OT → En → Prop} {m1 : Res (Fl σ R)} {K : σ → Res β} {L : R → Res β} (hl : match m1 with
    | .ok (.nx s') => ∃ ρ', A ρ = .nx ρ' ∧ N s' ρ'
    | .ok (.bk s') => ∃ ρ', A ρ = .nx ρ' ∧ N s' ρ'
    | .ok (.rt r) => ∃ o ρ', A ρ = .rt o ρ' ∧ er r o ρ'
    | .ex x => T.w → ∃ ρ', A ρ = .ex x ρ' ∧ T.X ρ'
    | .bad => True) (q : ∀ r o ρ', er r o ρ' → T.Q (L r) (.rt o ρ')) (k : ∀ s ρ', N s ρ' → T.Q (K s) (F ρ')) : T.Q (m1.bind fun o => FL.fin o K L) (seqF A F ρ) := by
  cases m1 with
  | ok o =>
    rw [Res.bind_ok]
    cases o with
    | nx s =>
      obtain ⟨ρ', e, n⟩ := hl
      rw [seq_nx e rfl]; exact k s ρ' n
    | bk s =>
      obtain ⟨ρ', e, n⟩ := hl
      rw [seq_nx e rfl]; exact k s ρ' n
    | rt r =>
      obtain ⟨o, ρ', e, n⟩ := hl
      rw [seq_rt e]; exact q r o ρ' n
  | ex x =>
    exact T.exw x _ fun z => by
      obtain ⟨ρ', e, n⟩ := hl z
      exact ⟨ρ', seq_ex e, n⟩
  | bad => exact T.bad _
theorem Tg.lp {N : σ → En → Prop} {er : R → OT → En → Prop} {e : α → D} {g : D → En → Option En} {fi : En → Res (List D)} {xs : List α} {s0 : σ} {body : α → σ → Res (Fl σ R)} {K : σ → Res β} {L : R → Res β} (hi : fi ρ = .ok (xs.map e)) (h0 : N s0 ρ)
    (hb : ∀ T' : Tg (Fl σ R), IsB T' T.X er N → ∀ a s ρ, N s ρ → ∃ ρ1, g (e a) ρ = some ρ1 ∧ T'.Q (body a s) (A ρ1)) (q : ∀ r o ρ', er r o ρ' → T.Q (L r) (.rt o ρ')) (k : ∀ s ρ', N s ρ' → T.Q (K s) (F ρ')) : T.Q ((FL.lp body xs s0).bind fun o => FL.fin o K L) (seqF (forF fi g A) F ρ) := by
  replace hb := hb (tgB T.w T.X er N) tgB.is
  refine Tg.fin (N := N) (er := er) ?_ q k
  rw [for_ok hi]
  exact lp_sim hb xs s0 ρ h0
/-- while -/
def whK (c : σ → Res Bool) (body : σ → Res (Fl σ R)) : Nat → σ → Option (Res (Fl σ R))
  | 0, _ => none
  | n + 1, s => match c s with
    | .ok true => match body s with
      | .ok (.nx s') => whK c body n s'
      | .ok (.bk s') => some (.ok (.nx s'))
      | .ok (.rt r) => some (.ok (.rt r))
      | .ex x => some (.ex x)
      | .bad => some .bad
    | .ok false => some (.ok (.nx s))
    | .ex x => some (.ex x)
    | .bad => some .bad
open Classical in
noncomputable def wh (c : σ → Res Bool) (body : σ → Res (Fl σ R)) (s : σ) : Res (Fl σ R) := if h : ∃ n r, whK c body n s = some r then h.choose_spec.choose else .bad
theorem whK_more {c : σ → Res Bool} {body : σ → Res (Fl σ R)} : ∀ {n m : Nat} {s : σ} {r : Res (Fl σ R)}, n ≤ m → whK c body n s = some r → whK c body m s = some r
  | 0, _, _, _, _, h => by cases h
  | n + 1, 0, _, _, l, _ => by omega
  | n + 1, m + 1, s, r, l, h => by
    unfold whK at h ⊢
    split at h
    · split at h
      · exact whK_more (by omega) h
      · exact h
      · exact h
      · exact h
      · exact h
    · exact h
    · exact h
    · exact h
theorem wh_of {c : σ → Res Bool} {body : σ → Res (Fl σ R)} {n : Nat} {s : σ} {r : Res (Fl σ R)} (h : whK c body n s = some r) : wh c body s = r := by
  have hx : ∃ n r, whK c body n s = some r := ⟨n, r, h⟩
  unfold wh
  rw [dif_pos hx]
  have e := hx.choose_spec.choose_spec
  have a := whK_more (Nat.le_max_left n hx.choose) h
  have b := whK_more (Nat.le_max_right n hx.choose) e
  rw [a] at b
  exact (Option.some.inj b).symm
theorem whK_sim {X : En → Prop} {er : R → OT → En → Prop} {N : σ → En → Prop} {t : En → Res Bool} {c : σ → Res Bool} {body : σ → Res (Fl σ R)} (hc : ∀ s ρ, N s ρ → Sm False id (c s) (t ρ)) (hb : ∀ s ρ, N s ρ → (tgB False X er N).Q (body s) (F ρ)) : ∀ (n : Nat) (s : σ) (ρ : En) (m : Res (Fl σ R)), N s ρ → whK c body n s = some m →
    match m with
    | .ok (.nx s') => ∃ ρ', whN t F n ρ = some (.nx ρ') ∧ N s' ρ'
    | .ok (.bk s') => ∃ ρ', whN t F n ρ = some (.nx ρ') ∧ N s' ρ'
    | .ok (.rt r) => ∃ o ρ', whN t F n ρ = some (.rt o ρ') ∧ er r o ρ'
    | _ => True
  | 0, _, _, _, _, h => by cases h
  | n + 1, s, ρ, m, hN, h => by
    unfold whK at h
    unfold whN
    have h1 := hc s ρ hN
    have h2 := hb s ρ hN
    cases e1 : c s with
    | ok b =>
      rw [e1] at h h1
      rw [show t ρ = .ok b from h1]
      cases b with
      | true =>
        dsimp only at h ⊢
        cases e2 : body s with
        | ok o =>
          rw [e2] at h h2
          cases o with
          | nx s' =>
            obtain ⟨ρ2, e3, n'⟩ := h2
            rcases e3 with e3 | e3
            · rw [e3]; exact whK_sim hc hb n s' ρ2 m n' h
            · rw [e3]; exact whK_sim hc hb n s' ρ2 m n' h
          | bk s' =>
            obtain ⟨ρ2, e3, n'⟩ := h2
            cases h
            rw [e3]; exact ⟨ρ2, rfl, n'⟩
          | rt r =>
            obtain ⟨o, ρ2, e3, n'⟩ := h2
            cases h
            rw [e3]; exact ⟨o, ρ2, rfl, n'⟩
        | ex x => rw [e2] at h; cases h; exact trivial
        | bad => rw [e2] at h; cases h; exact trivial
      | false => cases h; exact ⟨ρ, rfl, hN⟩
    | ex x => rw [e1] at h; cases h; exact trivial
    | bad => rw [e1] at h; cases h; exact trivial
theorem Tg.wh {N : σ → En → Prop} {er : R → OT → En → Prop} {t : En → Res Bool} {s0 : σ} {c : σ → Res Bool} {body : σ → Res (Fl σ R)} {K : σ → Res β} {L : R → Res β} (h0 : N s0 ρ) (hc : ∀ s ρ, N s ρ → Sm False id (c s) (t ρ))
    (hb : ∀ T' : Tg (Fl σ R), IsB T' T.X er N → ∀ s ρ, N s ρ → T'.Q (body s) (A ρ)) (q : ∀ r o ρ', er r o ρ' → T.Q (L r) (.rt o ρ')) (k : ∀ s ρ', N s ρ' → T.Q (K s) (F ρ')) : T.Q (FL.nb (FL.wh c body s0) fun o => FL.fin o K L) (seqF (whF t A) F ρ) := by
  replace hb := hb (tgB False T.X er N) tgB.is
  cases e : FL.wh c body s0 with
  | ok o =>
    have hx : ∃ n, whK c body n s0 = some (.ok o) := by
      unfold FL.wh at e
      split at e
      · rename_i hx
        exact ⟨hx.choose, by rw [← e]; exact hx.choose_spec.choose_spec⟩
      · cases e
    obtain ⟨n, hn⟩ := hx
    have hs := whK_sim hc hb n s0 ρ _ h0 hn
    rw [nb_ok]
    cases o with
    | nx s =>
      obtain ⟨ρ', e, n⟩ := hs
      rw [seq_nx (whF_of e) rfl]; exact k s ρ' n
    | bk s =>
      obtain ⟨ρ', e, n⟩ := hs
      rw [seq_nx (whF_of e) rfl]; exact k s ρ' n
    | rt r =>
      obtain ⟨o, ρ', e, n⟩ := hs
      rw [seq_rt (whF_of e)]; exact q r o ρ' n
  | ex x => exact T.bad _
  | bad => exact T.bad _
/-! what a def says -/
theorem Sz.run {w : Prop} {e : R → D} {mr : Res R} {a n : Nat} {ds : List D} (hl : ds.length = a) (hr : args n ds = ρ) (h : ∀ T : Tg R, IsR T (fun r o _ => FL.fz o = e r) → T.Q mr (F ρ)) : Sz w e mr (FL.run a n F ds) := by
  subst hr
  replace h := h (tgR w (fun _ => True) _) tgR.is
  unfold FL.run
  rw [if_pos hl]
  cases mr with
  | ok r =>
    obtain ⟨ρ, ⟨h1, h2⟩ | ⟨o, h1, h2⟩⟩ := h
    · rw [h1]; exact ⟨_, rfl, h2⟩
    · rw [h1]; exact ⟨_, rfl, h2⟩
  | ex x => exact fun z => by obtain ⟨ρ, h1, _⟩ := h z; rw [h1]
  | bad => exact trivial
theorem Sm.run {w : Prop} {e : R → OT} {mr : Res R} {a n : Nat} {ds : List D} (hl : ds.length = a) (hr : args n ds = ρ) (h : ∀ T : Tg R, IsR T (fun r o _ => o = e r) → T.Q mr (F ρ)) : Sm w e mr (FL.run a n F ds) := by
  subst hr
  replace h := h (tgR w (fun _ => True) _) tgR.is
  unfold FL.run
  rw [if_pos hl]
  cases mr with
  | ok r =>
    obtain ⟨ρ, ⟨h1, h2⟩ | ⟨o, h1, h2⟩⟩ := h
    · rw [h1]; exact congrArg Res.ok h2
    · rw [h1]; exact congrArg Res.ok h2
  | ex x => exact fun z => by obtain ⟨ρ, h1, _⟩ := h z; rw [h1]
  | bad => exact trivial
end
end FL
/-! The typed layer, part C: operations. -/
namespace FL
open PySem PySem.Spec PyProof.Rows L2
section
variable {α β γ δ σ R : Type}
def sg (c : Nat) : Str := ⟨#[c]⟩
abbrev eG : Nat → D := fun c => .str (sg c)
@[irreducible] def chk (p : Prop) [Decidable p] (a : α) : Res α := if p then .ok a else .bad
theorem chk_ok {p : Prop} [Decidable p] {a : α} (h : p) : chk p a = .ok a := by unfold chk; exact if_pos h
theorem chk_eq {p : Prop} [Decidable p] {a b : α} (h : chk p a = .ok b) : p ∧ a = b := by
  unfold chk at h
  split at h
  · cases h; exact ⟨by assumption, rfl⟩
  · cases h
/-! ### equality -/
structure Eqn [DecidableEq α] (k : Nat) (e : α → D) : Prop where
  eq : ∀ a b, eqv (e a) (e b) = decide (a = b)
  pl : ∀ n a, k ≤ n → plain n (e a) = true
theorem EqnI : Eqn 0 eI := ⟨fun _ _ => rfl, fun n a _ => by cases n <;> rfl⟩
theorem EqnB : Eqn 0 eB := ⟨fun a b => by cases a <;> cases b <;> rfl, fun n a _ => by cases n <;> rfl⟩
theorem EqnS : Eqn 0 eS := ⟨fun _ _ => rfl, fun n a _ => by cases n <;> rfl⟩
theorem EqnN : Eqn 0 eN := ⟨fun _ _ => rfl, fun n a _ => by cases n <;> rfl⟩
theorem plains_map {e : α → D} {n : Nat} (h : ∀ a, plain n (e a) = true) (l : List α) : plains (n + 1) (l.map e) = true := plains_all fun d hd => by
  obtain ⟨a, _, rfl⟩ := List.mem_map.mp hd
  exact h a
theorem eqvs_map [DecidableEq α] {e : α → D} (h : ∀ a b, eqv (e a) (e b) = decide (a = b)) : ∀ l m : List α, eqvs (l.map e) (m.map e) = decide (l = m)
  | [], [] => rfl
  | [], _ :: _ => rfl
  | _ :: _, [] => rfl
  | a :: l, b :: m => by
    rw [List.map_cons, List.map_cons, eqvs, h, eqvs_map h l m]
    by_cases e1 : a = b
    · by_cases e2 : l = m
      · simp [e1, e2]
      · simp [e1, e2]
    · simp [e1]
theorem EqnL [DecidableEq α] {k : Nat} {e : α → D} (h : Eqn k e) : Eqn (k + 1) (eL e) := ⟨fun a b => by unfold eL; rw [eqv, eqvs_map h.eq], fun n a hn => by
  obtain ⟨n, rfl⟩ : ∃ m, n = m + 1 := ⟨n - 1, by omega⟩
  unfold eL; rw [plain]; exact plains_map (fun a => h.pl n a (by omega)) a⟩
theorem EqnV [DecidableEq α] {k : Nat} {e : α → D} (h : Eqn k e) : Eqn (k + 1) (eV e) := ⟨fun a b => by unfold eV; rw [eqv, eqvs_map h.eq], fun n a hn => by
  obtain ⟨n, rfl⟩ : ∃ m, n = m + 1 := ⟨n - 1, by omega⟩
  unfold eV; rw [plain]; exact plains_map (fun a => h.pl n a (by omega)) a⟩
theorem EqnT1 [DecidableEq α] {k : Nat} {e1 : α → D} (h : Eqn k e1) : Eqn (k + 1) (eT1 e1) := ⟨fun a b => by
  unfold eT1; simp only [eqv, eqvs, h.eq, Bool.and_true], fun n a hn => by
  obtain ⟨n, rfl⟩ : ∃ m, n = m + 1 := ⟨n - 1, by omega⟩
  unfold eT1; simp only [plain, plains, h.pl n _ (by omega), Bool.and_true]⟩
theorem EqnT2 [DecidableEq α] [DecidableEq β] {k k2 : Nat} {e1 : α → D} {e2 : β → D} (h : Eqn k e1) (h2 : Eqn k2 e2) : Eqn (max k k2 + 1) (eT2 e1 e2) := ⟨fun a b => by
  obtain ⟨a1, a2⟩ := a; obtain ⟨b1, b2⟩ := b
  unfold eT2; simp only [eqv, eqvs, h.eq, h2.eq, Bool.and_true, Prod.mk.injEq, Bool.decide_and], fun n a hn => by
  obtain ⟨n, rfl⟩ : ∃ m, n = m + 1 := ⟨n - 1, by omega⟩
  unfold eT2; simp only [plain, plains, h.pl n _ (by omega), h2.pl n _ (by omega), Bool.and_true]⟩
theorem EqnT3 [DecidableEq α] [DecidableEq β] [DecidableEq γ] {k k2 k3 : Nat} {e1 : α → D} {e2 : β → D} {e3 : γ → D} (h : Eqn k e1) (h2 : Eqn k2 e2) (h3 : Eqn k3 e3) : Eqn (max k (max k2 k3) + 1) (eT3 e1 e2 e3) := ⟨fun a b => by
  obtain ⟨a1, a2, a3⟩ := a; obtain ⟨b1, b2, b3⟩ := b
  unfold eT3; simp only [eqv, eqvs, h.eq, h2.eq, h3.eq, Bool.and_true, Prod.mk.injEq, Bool.decide_and], fun n a hn => by
  obtain ⟨n, rfl⟩ : ∃ m, n = m + 1 := ⟨n - 1, by omega⟩
  unfold eT3; simp only [plain, plains, h.pl n _ (by omega), h2.pl n _ (by omega), h3.pl n _ (by omega), Bool.and_true]⟩
theorem EqnT4 [DecidableEq α] [DecidableEq β] [DecidableEq γ] [DecidableEq δ] {k k2 k3 k4 : Nat} {e1 : α → D} {e2 : β → D} {e3 : γ → D} {e4 : δ → D} (h : Eqn k e1) (h2 : Eqn k2 e2) (h3 : Eqn k3 e3) (h4 : Eqn k4 e4) : Eqn (max k (max k2 (max k3 k4)) + 1) (eT4 e1 e2 e3 e4) := ⟨fun a b => by
  obtain ⟨a1, a2, a3, a4⟩ := a; obtain ⟨b1, b2, b3, b4⟩ := b
  unfold eT4; simp only [eqv, eqvs, h.eq, h2.eq, h3.eq, h4.eq, Bool.and_true, Prod.mk.injEq, Bool.decide_and], fun n a hn => by
  obtain ⟨n, rfl⟩ : ∃ m, n = m + 1 := ⟨n - 1, by omega⟩
  unfold eT4; simp only [plain, plains, h.pl n _ (by omega), h2.pl n _ (by omega), h3.pl n _ (by omega), h4.pl n _ (by omega), Bool.and_true]⟩
theorem EqnO [DecidableEq α] {k : Nat} {e : α → D} (nn : ∀ a, eqv (e a) .non = false ∧ eqv .non (e a) = false) (h : Eqn k e) : Eqn k (eO e) := ⟨fun a b => by
  cases a with
  | none => cases b with
    | none => rfl
    | some b => exact (nn b).2
  | some a => cases b with
    | none => exact (nn a).1
    | some b => rw [eO, eO, h.eq]; simp, fun n a hn => by
  cases a with
  | none => cases n <;> rfl
  | some a => exact h.pl n a hn⟩
theorem eqP [DecidableEq α] {k : Nat} {e : α → D} (h : Eqn k e) (a b : α) (hk : k ≤ 64 := by decide) : eqD (e a) (e b) = some (.bl (decide (a = b))) := by
  unfold eqD; rw [h.pl 64 a hk, h.pl 64 b hk, h.eq]; rfl
theorem neP [DecidableEq α] {k : Nat} {e : α → D} (h : Eqn k e) (a b : α) (hk : k ≤ 64 := by decide) : neD (e a) (e b) = some (.bl (!decide (a = b))) := by
  unfold neD; rw [h.pl 64 a hk, h.pl 64 b hk, h.eq]; rfl
theorem any_map [DecidableEq α] {e : α → D} (h : ∀ a b, eqv (e a) (e b) = decide (a = b)) (a : α) : ∀ l : List α, (l.map e).any (fun y => eqv y (e a)) = decide (a ∈ l)
  | [] => by simp
  | b :: l => by
    rw [List.map_cons, List.any_cons, any_map h a l, h]
    by_cases e1 : b = a
    · simp [e1]
    · have e2 : ¬ a = b := fun z => e1 z.symm
      simp [e1, e2]
theorem all_map {e : α → D} {p : D → Bool} (h : ∀ a, p (e a) = true) (l : List α) : (l.map e).all p = true := by
  rw [List.all_map]
  exact List.all_eq_true.mpr fun a _ => h a
theorem inP [DecidableEq α] {k : Nat} {e : α → D} (h : Eqn k e) (fl : ∀ a, flat (e a) = true) (a : α) (l : List α) : inD1 (e a) (eL e l) = some (.bl (decide (a ∈ l))) := by
  unfold inD1 eL
  have e1 : inD (e a) (.lst (l.map e)) = some (decide (a ∈ l)) := by
    unfold inD
    have := fl a
    cases e2 : e a <;> (rw [e2] at this; first | cases this | skip) <;> dsimp only <;> rw [if_pos (by rw [all_map fl]; rfl), ← e2, any_map h.eq]
  rw [e1]; rfl
theorem inPV [DecidableEq α] {k : Nat} {e : α → D} (h : Eqn k e) (fl : ∀ a, flat (e a) = true) (a : α) (l : List α) : inD1 (e a) (eV e l) = some (.bl (decide (a ∈ l))) := by
  unfold inD1 eV
  have e1 : inD (e a) (.tup (l.map e)) = some (decide (a ∈ l)) := by
    unfold inD
    have := fl a
    cases e2 : e a <;> (rw [e2] at this; first | cases this | skip) <;> dsimp only <;> rw [if_pos (by rw [all_map fl]; rfl), ← e2, any_map h.eq]
  rw [e1]; rfl
theorem ninOf {x y : D} {b : Bool} (h : inD1 x y = some (.bl b)) : ninD1 x y = some (.bl (!b)) := by
  unfold inD1 at h
  unfold ninD1
  cases e : inD x y with
  | none => rw [e] at h; cases h
  | some c => rw [e] at h; cases h; rfl
theorem inG (c : Nat) (z : Str) : inD1 (eG c) (eS z) = some (.bl (decide (c ∈ z.cps.toList))) := by
  unfold inD1 inD
  dsimp only
  rw [if_pos (by rfl)]; rfl
/-! ### items -/
def atL (l : List α) (i : Int) : Res α := match L2.atI l i with
  | some x => .ok x
  | none => .bad
theorem atL_in {l : List α} {i : Int} {x : α} (h0 : 0 ≤ i) (h : l[i.toNat]? = some x) : atL l i = .ok x := by
  unfold atL; rw [atI_in h0 h]
theorem atL_nat {l : List α} {i : Nat} (h : i < l.length) : atL l (i : Int) = .ok l[i] := atL_in (by omega) (by rw [Int.toNat_natCast, List.getElem?_eq_getElem h])
theorem atL_some {l : List α} {i : Int} {x : α} (h : atL l i = .ok x) : L2.atI l i = some x := by
  unfold atL at h
  split at h
  · rename_i y e; cases h; exact e
  · cases h
theorem ixL {e : α → D} {l : List α} {i : Int} (a : α) (h : atL l i = .ok a) : ixD (eL e l) (.int i) = some (e a) := by
  show L2.atI (l.map e) i = _
  rw [atI_map, atL_some h]; rfl
theorem ixV {e : α → D} {l : List α} {i : Int} (a : α) (h : atL l i = .ok a) : ixD (eV e l) (.int i) = some (e a) := by
  show L2.atI (l.map e) i = _
  rw [atI_map, atL_some h]; rfl
theorem ixC {l : List Int} {i : Int} (a : Int) (h : atL l i = .ok a) : ixD (eC l) (.int i) = some (eI a) := by
  show (L2.atI l i).map D.int = _
  rw [atL_some h]; rfl
def atS (z : Str) (i : Int) : Res Str := nb (atL z.cps.toList i) fun c => .ok (sg c)
theorem ixS {z : Str} {i : Int} (a : Str) (h : atS z i = .ok a) : ixD (eS z) (.int i) = some (eS a) := by
  unfold atS at h
  obtain ⟨c, h1, h2⟩ := nb_eq_ok h
  cases h2
  show (L2.atI z.cps.toList i).map (fun c => D.str ⟨#[c]⟩) = _
  rw [atL_some h1]; rfl
theorem look_map {κ κ' : Type} [DecidableEq κ] [DecidableEq κ'] {f : κ' → κ} (hf : ∀ a b, f a = f b → a = b) {e : α → β} (k : κ') : ∀ l : List (κ' × α), look (l.map fun p => f p.1) (l.map fun p => e p.2) (f k) = (l.lookup k).map e
  | [] => rfl
  | (q, x) :: l => by
    rw [List.map_cons, List.map_cons, look, List.lookup_cons]
    by_cases h : q = k
    · rw [if_pos (by rw [h]), h]; simp
    · rw [if_neg (fun z => h (hf _ _ z)), look_map hf k l]
      have : (k == q) = false := by simp; exact fun z => h z.symm
      rw [this]
def getK {κ : Type} [BEq κ] (l : List (κ × α)) (k : κ) : Res α := match l.lookup k with
  | some x => .ok x
  | none => .bad
theorem getK_some {κ : Type} [BEq κ] {l : List (κ × α)} {k : κ} {x : α} (h : getK l k = .ok x) : l.lookup k = some x := by
  unfold getK at h
  split at h
  · rename_i y e; cases h; exact e
  · cases h
theorem inl_inj' (a b : Int) (h : (Sum.inl a : Key) = .inl b) : a = b := by cases h; rfl
theorem inr_inj' (a b : Str) (h : (Sum.inr a : Key) = .inr b) : a = b := by cases h; rfl
theorem ixKI {e : α → D} {l : List (Int × α)} {k : Int} (a : α) (h : getK l k = .ok a) : ixD (eKI e l) (.int k) = some (e a) := by
  unfold eKI ixD
  show look (l.map fun p => (Sum.inl p.1 : Key)) (l.map fun p => e p.2) (Sum.inl k) = _
  rw [look_map inl_inj', getK_some h]; rfl
theorem ixKS {e : α → D} {l : List (Str × α)} {k : Str} (a : α) (h : getK l k = .ok a) : ixD (eKS e l) (.str k) = some (e a) := by
  unfold eKS ixD
  show look (l.map fun p => (Sum.inr p.1 : Key)) (l.map fun p => e p.2) (Sum.inr k) = _
  rw [look_map inr_inj', getK_some h]; rfl
theorem inKI {e : α → D} (l : List (Int × α)) (k : Int) : inD1 (eI k) (eKI e l) = some (.bl (l.lookup k).isSome) := by
  unfold eKI inD1 inD
  show (some (look (l.map fun p => (Sum.inl p.1 : Key)) (l.map fun p => e p.2) (Sum.inl k)).isSome).map D.bl = _
  rw [look_map inl_inj']; simp
theorem inKS {e : α → D} (l : List (Str × α)) (k : Str) : inD1 (eS k) (eKS e l) = some (.bl (l.lookup k).isSome) := by
  unfold eKS inD1 inD
  show (some (look (l.map fun p => (Sum.inr p.1 : Key)) (l.map fun p => e p.2) (Sum.inr k)).isSome).map D.bl = _
  rw [look_map inr_inj']; simp
/-! ### lengths, sums -/
theorem lnL {e : α → D} (l : List α) : lenL [eL e l] = some (eI l.length) := by
  show some (D.int ((l.map e).length : Int)) = _
  rw [List.length_map]
theorem lnV {e : α → D} (l : List α) : lenL [eV e l] = some (eI l.length) := by
  show some (D.int ((l.map e).length : Int)) = _
  rw [List.length_map]
theorem lnC (l : List Int) : lenL [eC l] = some (eI l.length) := rfl
theorem lnS (z : Str) : lenL [eS z] = some (eI z.length) := rfl
theorem lnKI {e : α → D} (l : List (Int × α)) : lenL [eKI e l] = some (eI l.length) := by
  show some (D.int ((l.map fun p => (Sum.inl p.1 : Key)).length : Int)) = _
  rw [List.length_map]
theorem lnKS {e : α → D} (l : List (Str × α)) : lenL [eKS e l] = some (eI l.length) := by
  show some (D.int ((l.map fun p => (Sum.inr p.1 : Key)).length : Int)) = _
  rw [List.length_map]
theorem intsM : ∀ l : List Int, intsOf (l.map eI) = some l
  | [] => rfl
  | a :: l => by rw [List.map_cons, intsOf, intsM l]; rfl
theorem blsM : ∀ l : List Bool, bls (l.map eB) = some l
  | [] => rfl
  | a :: l => by rw [List.map_cons, bls, blsM l]; rfl
theorem strsM : ∀ l : List Str, strsOf (l.map eS) = some l
  | [] => rfl
  | a :: l => by rw [List.map_cons, strsOf, strsM l]; rfl
theorem smP (l : List Int) : sumD [eL eI l] = some (eI l.sum) := by
  unfold eL sumD; dsimp only; rw [intsM]; rfl
theorem alP (l : List Bool) : allD [eL eB l] = some (eB (l.all id)) := by
  unfold eL allD; dsimp only; rw [blsM]; rfl
theorem anP (l : List Bool) : anyD [eL eB l] = some (eB (l.any id)) := by
  unfold eL anyD; dsimp only; rw [blsM]; rfl
theorem mxP (i j : Int) : max2 [eI i, eI j] = some (eI (max i j)) := by
  show some (D.int (if j > i then j else i)) = _
  rw [show (if j > i then j else i) = max i j by split <;> omega]
theorem mnP (i j : Int) : min2 [eI i, eI j] = some (eI (min i j)) := by
  show some (D.int (if j < i then j else i)) = _
  rw [show (if j < i then j else i) = min i j by split <;> omega]
def maxL : List Int → Res Int
  | [] => .bad
  | n :: ns => .ok (ns.foldl max n)
def minL : List Int → Res Int
  | [] => .bad
  | n :: ns => .ok (ns.foldl min n)
theorem mxL {l : List Int} (a : Int) (h : maxL l = .ok a) : maxN [eL eI l] = some (eI a) := by
  unfold eL maxN; dsimp only
  rw [intsM]
  cases l with
  | nil => cases h
  | cons n ns => cases h; rfl
theorem mnL {l : List Int} (a : Int) (h : minL l = .ok a) : minN [eL eI l] = some (eI a) := by
  unfold eL minN; dsimp only
  rw [intsM]
  cases l with
  | nil => cases h
  | cons n ns => cases h; rfl
def b2i (b : Bool) : Int := if b then 1 else 0
/-! ### lists, texts -/
theorem ofL {e : α → D} (l : List α) : (l.map e).map OT.d = l.map (oD e) := by rw [List.map_map]; rfl
theorem liL {e : α → D} (l : List α) : listO [eL e l] = some (oL (oD e) l) := by
  unfold eL oL listO; dsimp only; rw [ofL]
theorem liV {e : α → D} (l : List α) : listO [eV e l] = some (oL (oD e) l) := by
  unfold eV oL listO; dsimp only; rw [ofL]
theorem tuL {e : α → D} (l : List α) : tupleD [eL e l] = some (eV e l) := rfl
theorem tuV {e : α → D} (l : List α) : tupleD [eV e l] = some (eV e l) := rfl
def cat (a b : List α) : Res (List α) := chk (a.length + b.length ≤ 16777216) (a ++ b)
theorem cat_ok {a b : List α} (h : a.length + b.length ≤ 16777216) : cat a b = .ok (a ++ b) := chk_ok h
theorem caL {e : α → D} {a b : List α} (x : List α) (h : cat a b = .ok x) : addD (eL e a) (eL e b) = some (eL e x) := by
  obtain ⟨hc, rfl⟩ := chk_eq h; clear h; have h := hc
  unfold eL addD; dsimp only
  rw [if_pos (by rw [List.length_map, List.length_map]; exact h), List.map_append]
theorem caO {e : α → D} {a b : List α} (x : List α) (h : cat a b = .ok x) : addO (eL e a) (eL e b) = some (oL (oD e) x) := by
  obtain ⟨hc, rfl⟩ := chk_eq h; clear h; have h := hc
  unfold eL addO; dsimp only
  rw [if_pos (by rw [List.length_map, List.length_map]; exact h), ← List.map_append, ofL]; rfl
def catV (a b : List α) : Res (List α) := if a.isEmpty then .bad else cat a b
theorem caV {e : α → D} {a b : List α} (x : List α) (h : catV a b = .ok x) : addD (eV e a) (eV e b) = some (eV e x) := by
  unfold catV at h
  split at h
  · cases h
  · rename_i hn
    obtain ⟨hc, rfl⟩ := chk_eq h; clear h; have h := hc
    unfold eV addD; dsimp only
    rw [if_neg (fun z => hn (by rw [List.map_eq_nil_iff.mp z]; rfl)), if_pos (by rw [List.length_map, List.length_map]; exact h), List.map_append]
def catS (a b : Str) : Res Str := chk (a.length + b.length ≤ 16777216) (a ++ b)
theorem caS {a b : Str} (x : Str) (h : catS a b = .ok x) : addD (eS a) (eS b) = some (eS x) := by
  obtain ⟨hc, rfl⟩ := chk_eq h; clear h; have h := hc
  unfold addD; dsimp only
  rw [if_pos h]
def rep (a : List α) (k : Int) : Res (List α) := chk (-(2 ^ 63) ≤ k ∧ k < 2 ^ 63 ∧ a.length * k.toNat ≤ 16777216) (List.replicate k.toNat a).flatten
theorem rpL {e : α → D} {a : List α} {k : Int} (x : List α) (h : rep a k = .ok x) : mulD (eL e a) (eI k) = some (eL e x) := by
  obtain ⟨hc, rfl⟩ := chk_eq h; clear h; have h := hc
  unfold eL mulD; dsimp only
  rw [if_pos (by rw [List.length_map]; exact h), List.map_flatten, List.map_replicate]
theorem rpO {e : α → D} {a : List α} {k : Int} (x : List α) (h : rep a k = .ok x) : mulO (eL e a) (eI k) = some (oL (oD e) x) := by
  obtain ⟨hc, rfl⟩ := chk_eq h; clear h; have h := hc
  unfold eL mulO; dsimp only
  rw [if_pos (by rw [List.length_map]; exact h), ← List.map_replicate, ← List.map_flatten, ofL]; rfl
theorem cutL_map (f : α → β) (l : List α) (lo hi : Option Int) : cutL (l.map f) lo hi = (cutL l lo hi).map f := by
  unfold cutL
  rw [List.length_map, List.map_take, List.map_drop]
theorem slL {e : α → D} (l : List α) (lo hi : Option Int) : slD (eL e l) lo hi = some (eL e (cutL l lo hi)) := by
  unfold eL slD; dsimp only; rw [cutL_map]
theorem slLO {e : α → D} (l : List α) (lo hi : Option Int) : slO (eL e l) lo hi = some (oL (oD e) (cutL l lo hi)) := by
  unfold eL slO; dsimp only; rw [cutL_map, ofL]; rfl
theorem slS (z : Str) (lo hi : Option Int) : slD (eS z) lo hi = some (eS (cutS z lo hi)) := rfl
def cutT (l : List α) (lo hi : Option Int) : Res (List α) := if HT.sIx l.length 0 lo = 0 ∧ HT.sIx l.length l.length hi = l.length then .bad else .ok (cutL l lo hi)
theorem slV {e : α → D} {l : List α} {lo hi : Option Int} (x : List α) (h : cutT l lo hi = .ok x) : slD (eV e l) lo hi = some (eV e x) := by
  unfold cutT at h
  split at h
  · cases h
  · rename_i hn
    cases h
    unfold eV slD; dsimp only; rw [List.length_map, if_neg hn, cutL_map]
theorem rvL {e : α → D} (l : List α) : revD (eL e l) = some (eL e l.reverse) := by
  unfold eL revD; dsimp only; rw [List.map_reverse]
/-! ### sorted -/
theorem soI (l : List Int) : sortO [eL eI l] = some (oL (oD eI) (sortI l)) := by
  unfold eL sortO; dsimp only; rw [intsM]; rfl
theorem intsOf_str : ∀ {l : List Str}, l ≠ [] → intsOf (l.map eS) = none
  | [], h => absurd rfl h
  | a :: l, _ => rfl
theorem sortI_nil : sortI [] = [] := by unfold sortI; exact List.mergeSort_nil
theorem sortS_nil : sortS [] = [] := by unfold sortS; exact List.mergeSort_nil
def sortR (l : List Str) : Res (List Str) := chk (l.length < 64) (sortS l)
theorem soS {l : List Str} (x : List Str) (h : sortR l = .ok x) : sortO [eL eS l] = some (oL (oD eS) x) := by
  obtain ⟨hc, rfl⟩ := chk_eq h; clear h; have h := hc
  unfold eL sortO; dsimp only
  cases l with
  | nil =>
    show some (oI (sortI [])) = some (oL (oD eS) (sortS []))
    rw [sortI_nil, sortS_nil]; rfl
  | cons a l =>
    rw [intsOf_str (List.cons_ne_nil _ _), strsM]
    dsimp only
    rw [if_pos h]; rfl
def sortSet (l : List Int) : Res (List Int) := chk (l.length < 64) (sortI (dedup l))
theorem ssL {l : List Int} (x : List Int) (h : sortSet l = .ok x) : sortSetO [eL eI l] = some (oL (oD eI) x) := by
  obtain ⟨hc, rfl⟩ := chk_eq h; clear h; have h := hc
  unfold eL sortSetO; dsimp only
  rw [intsM, Option.bind_some, if_pos h]; rfl
theorem ssV {l : List Int} (x : List Int) (h : sortSet l = .ok x) : sortSetO [eV eI l] = some (oL (oD eI) x) := by
  obtain ⟨hc, rfl⟩ := chk_eq h; clear h; have h := hc
  unfold eV sortSetO; dsimp only
  rw [intsM, Option.bind_some, if_pos h]; rfl
theorem keyI_map : ∀ l : List (Int × α), keyI (l.map fun p => (Sum.inl p.1 : Key)) = some (l.map (·.1))
  | [] => rfl
  | a :: l => by rw [List.map_cons, keyI, keyI_map l]; rfl
theorem keyS_map : ∀ l : List (Str × α), keyS (l.map fun p => (Sum.inr p.1 : Key)) = some (l.map (·.1))
  | [] => rfl
  | a :: l => by rw [List.map_cons, keyS, keyS_map l]; rfl
def sortKI (l : List (Int × α)) : Res (List Int) := chk (l.length < 64) (sortI (l.map (·.1)))
theorem soKI {e : α → D} {l : List (Int × α)} (x : List Int) (h : sortKI l = .ok x) : sortO [eKI e l] = some (oL (oD eI) x) := by
  obtain ⟨hc, rfl⟩ := chk_eq h; clear h; have h := hc
  unfold eKI sortO; dsimp only
  rw [keyI_map]
  dsimp only
  rw [if_pos (by rw [List.length_map]; exact h)]; rfl
def sortKS (l : List (Str × α)) : Res (List Str) := chk (l.length < 64 ∧ (l.map (·.1)).all okS = true) (sortS (l.map (·.1)))
theorem soKS {e : α → D} {l : List (Str × α)} (x : List Str) (h : sortKS l = .ok x) : sortO [eKS e l] = some (oL (oD eS) x) := by
  obtain ⟨hc, rfl⟩ := chk_eq h; clear h; have h := hc
  unfold eKS sortO; dsimp only
  cases l with
  | nil =>
    show (if [].length < 64 then some (oI (sortI [])) else none) = some (oL (oD eS) (sortS []))
    rw [sortI_nil, sortS_nil]; rfl
  | cons a l =>
    rw [show keyI ((a :: l).map fun p => (Sum.inr p.1 : Key)) = none from rfl, keyS_map]
    dsimp only
    rw [if_pos (by rw [List.length_map]; exact h)]; rfl
/-! ### what is walked -/
theorem wkL {e : α → D} (l : List α) : itQ (eL e l) = some (l.map e) := rfl
theorem wkV {e : α → D} (l : List α) : itQ (eV e l) = some (l.map e) := rfl
theorem wkS (z : Str) : itQ (eS z) = some (z.cps.toList.map eG) := rfl
def rngI (lo c : Int) (n : Nat) : List Int := (List.range n).map fun (i : Nat) => lo + (i : Int) * c
theorem rngI_map (lo c : Int) (n : Nat) : rngL lo c n = (rngI lo c n).map eI := by
  unfold rngL rngI; rw [List.map_map]; rfl
def rn1 (j : Int) : Res (List Int) := chk (-4000000000 ≤ j ∧ j ≤ 16777216) (rngI 0 1 j.toNat)
def rn2 (i j : Int) : Res (List Int) := chk (-4000000000 ≤ i ∧ i ≤ 4000000000 ∧ j ≤ 4000000000 ∧ -4000000000 ≤ j ∧ j - i ≤ 16777216) (rngI i 1 (j - i).toNat)
def rn3 (i j c : Int) : Res (List Int) := chk (c = -1 ∧ -4000000000 ≤ i ∧ i ≤ 4000000000 ∧ j ≤ 4000000000 ∧ -4000000000 ≤ j ∧ i - j ≤ 16777216) (rngI i (-1) (i - j).toNat)
theorem wr1 {j : Int} (x : List Int) (h : rn1 j = .ok x) : rg1 [eI j] = some (x.map eI) := by
  obtain ⟨hc, rfl⟩ := chk_eq h; clear h; have h := hc
  unfold rg1; dsimp only; rw [if_pos h, rngI_map]
theorem wr2 {i j : Int} (x : List Int) (h : rn2 i j = .ok x) : rg2 [eI i, eI j] = some (x.map eI) := by
  obtain ⟨hc, rfl⟩ := chk_eq h; clear h; have h := hc
  unfold rg2; dsimp only; rw [if_pos h, rngI_map]
theorem wr3 {i j c : Int} (x : List Int) (h : rn3 i j c = .ok x) : rg3 [eI i, eI j, eI c] = some (x.map eI) := by
  obtain ⟨hc, rfl⟩ := chk_eq h; clear h; have h := hc
  unfold rg3; dsimp only; rw [if_pos h, rngI_map]
def enm (i : Nat) : List α → List (Int × α)
  | [] => []
  | x :: xs => ((i : Int), x) :: enm (i + 1) xs
theorem enL_map {e : α → D} : ∀ (i : Nat) (l : List α), enL i (l.map e) = (enm i l).map (eT2 eI e)
  | _, [] => rfl
  | i, a :: l => by rw [List.map_cons, enL, enL_map (i + 1) l]; rfl
theorem weL {e : α → D} (l : List α) : enI [eL e l] = some ((enm 0 l).map (eT2 eI e)) := by
  unfold eL enI; dsimp only; rw [enL_map]
theorem ziL_map {e : α → D} {e2 : β → D} : ∀ (l : List α) (m : List β), ziL (l.map e) (m.map e2) = (l.zip m).map (eT2 e e2)
  | [], m => by simp [ziL]
  | a :: l, [] => by simp [ziL]
  | a :: l, b :: m => by rw [List.map_cons, List.map_cons, ziL, ziL_map l m]; rfl
theorem wzL {e : α → D} {e2 : β → D} (l : List α) (m : List β) : ziI [eL e l, eL e2 m] = some ((l.zip m).map (eT2 e e2)) := by
  unfold eL ziI; dsimp only; rw [ziL_map]
/-! ### stores -/
def snoc (l : List α) (x : α) : Res (List α) := chk (l.length < 16777216) (l ++ [x])
theorem snoc_ok {l : List α} {x : α} (h : l.length < 16777216) : snoc l x = .ok (l ++ [x]) := chk_ok h
variable {T : Tg β} {F : En → Flw} {ρ : En} {i : Nat}
theorem Tg.app {e : α → D} {l : List α} {x : α} {f : En → Res D} {K : List α → Res β} (hs : ρ[i]? = some (some (oL (oD e) l))) (h : f ρ = .ok (e x)) (k : ∀ y, T.Q (K y) (F (ρ.set i (some (oL (oD e) y))))) : T.Q (FL.nb (snoc l x) K) (seqF (FL.app i f) F ρ) := by
  refine Tg.nq fun y hy => ?_
  obtain ⟨hl, rfl⟩ := chk_eq hy
  rw [seq_nx (app_ok hs h (by rw [List.length_map]; exact hl)) rfl]
  have := k (l ++ [x])
  unfold oL at this
  rw [List.map_append] at this
  exact this
theorem Tg.ext {e : α → D} {l m : List α} {f : En → Res D} {K : List α → Res β} (hs : ρ[i]? = some (some (oL (oD e) l))) (h : f ρ = .ok (eL e m)) (k : ∀ y, T.Q (K y) (F (ρ.set i (some (oL (oD e) y))))) : T.Q (FL.nb (cat l m) K) (seqF (FL.ext i f) F ρ) := by
  refine Tg.nq fun y hy => ?_
  obtain ⟨hl, rfl⟩ := chk_eq hy
  rw [seq_nx (ext_ok hs h (by rw [List.length_map, List.length_map]; exact hl)) rfl]
  have := k (l ++ m)
  unfold oL at this
  rw [List.map_append] at this
  rw [ofL]
  exact this
theorem Tg.extV {e : α → D} {l m : List α} {f : En → Res D} {K : List α → Res β} (hs : ρ[i]? = some (some (oL (oD e) l))) (h : f ρ = .ok (eV e m)) (k : ∀ y, T.Q (K y) (F (ρ.set i (some (oL (oD e) y))))) : T.Q (FL.nb (cat l m) K) (seqF (FL.ext i f) F ρ) := by
  refine Tg.nq fun y hy => ?_
  obtain ⟨hl, rfl⟩ := chk_eq hy
  rw [seq_nx (ext_okT hs h (by rw [List.length_map, List.length_map]; exact hl)) rfl]
  have := k (l ++ m)
  unfold oL at this
  rw [List.map_append] at this
  rw [ofL]
  exact this
def setI (l : List α) (i : Int) (x : α) : Res (List α) := match ixN l.length i with
  | some j => .ok (l.set j x)
  | none => .bad
theorem setI_in {l : List α} {i : Int} {x : α} (h0 : 0 ≤ i) (h : i < l.length) : setI l i x = .ok (l.set i.toNat x) := by
  unfold setI; rw [ixN_in h0 h]
theorem setI_some {l : List α} {i : Int} {x : α} {y : List α} (h : setI l i x = .ok y) : ∃ j, ixN l.length i = some j ∧ y = l.set j x := by
  unfold setI at h
  split at h
  · rename_i j e; cases h; exact ⟨j, e, rfl⟩
  · cases h
theorem Tg.putL {e : α → D} {l : List α} {x : α} {k : Int} {f fi : En → Res D} {K : List α → Res β} (hs : ρ[i]? = some (some (oL (oD e) l))) (h : f ρ = .ok (e x)) (hi : fi ρ = .ok (eI k)) (kk : ∀ y, T.Q (K y) (F (ρ.set i (some (oL (oD e) y))))) : T.Q (FL.nb (setI l k x) K) (seqF (putS i fi f) F ρ) := by
  refine Tg.nq fun y hy => ?_
  obtain ⟨j, hj, rfl⟩ := setI_some hy
  rw [seq_nx (putS_lst hs h hi (by rw [List.length_map]; exact hj)) rfl]
  have := kk (l.set j x)
  unfold oL at this
  rw [List.map_set] at this
  exact this
/-- a dict's pair put -/
def putA {κ : Type} [DecidableEq κ] (l : List (κ × α)) (k : κ) (x : α) : List (κ × α) := if k ∈ l.map (·.1) then l.map fun p => if p.1 = k then (p.1, x) else p else l ++ [(k, x)]
def putK {κ : Type} [DecidableEq κ] (l : List (κ × α)) (k : κ) (x : α) : Res (List (κ × α)) := chk (l.length < 16777216) (putA l k x)
theorem kput_map {κ κ' : Type} [DecidableEq κ] [DecidableEq κ'] {f : κ' → κ} (hf : ∀ a b, f a = f b → a = b) {e : α → γ} (k : κ') (x : α) (l : List (κ' × α)) :
    (FL.kput (l.map fun p => f p.1) (l.map fun p => e p.2) (f k) (e x)).1 = (putA l k x).map (fun p => f p.1) ∧ (FL.kput (l.map fun p => f p.1) (l.map fun p => e p.2) (f k) (e x)).2 = (putA l k x).map (fun p => e p.2) := by
  unfold FL.kput putA
  have hm : f k ∈ (l.map fun p => f p.1) ↔ k ∈ l.map (·.1) := by
    rw [List.mem_map, List.mem_map]
    exact ⟨fun ⟨p, a, b⟩ => ⟨p, a, hf _ _ b⟩, fun ⟨p, a, b⟩ => ⟨p, a, by rw [b]⟩⟩
  by_cases h : k ∈ l.map (·.1)
  · rw [if_pos (hm.mpr h), if_pos h]
    dsimp only
    constructor
    · rw [List.map_map]
      refine List.map_congr_left fun p _ => ?_
      dsimp only [Function.comp]
      split <;> rfl
    · clear h hm
      induction l with
      | nil => rfl
      | cons p l ih =>
        rw [List.map_cons, List.map_cons, List.zipWith_cons_cons, ih, List.map_cons, List.map_cons]
        congr 1
        by_cases h : p.1 = k
        · rw [if_pos h, if_pos (by rw [h])]
        · rw [if_neg h, if_neg (fun z => h (hf _ _ z))]
  · rw [if_neg (fun z => h (hm.mp z)), if_neg h]
    dsimp only
    rw [List.map_append, List.map_append]
    exact ⟨rfl, rfl⟩
theorem Tg.putKI {e : α → D} {l : List (Int × α)} {x : α} {k : Int} {f fi : En → Res D} {K : List (Int × α) → Res β} (hs : ρ[i]? = some (some (oKI (oD e) l))) (h : f ρ = .ok (e x)) (hi : fi ρ = .ok (eI k)) (kk : ∀ y, T.Q (K y) (F (ρ.set i (some (oKI (oD e) y))))) : T.Q (FL.nb (putK l k x) K) (seqF (putS i fi f) F ρ) := by
  refine Tg.nq fun y hy => ?_
  obtain ⟨hl, rfl⟩ := chk_eq hy
  rw [seq_nx (putS_dK hs h hi rfl (by rw [List.length_map]; exact hl)) rfl]
  have := kk (putA l k x)
  unfold oKI at this
  obtain ⟨h1, h2⟩ := kput_map (e := oD e) inl_inj' k x l
  rw [← h1, ← h2] at this
  exact this
theorem Tg.putKS {e : α → D} {l : List (Str × α)} {x : α} {k : Str} {f fi : En → Res D} {K : List (Str × α) → Res β} (hs : ρ[i]? = some (some (oKS (oD e) l))) (h : f ρ = .ok (e x)) (hi : fi ρ = .ok (eS k)) (kk : ∀ y, T.Q (K y) (F (ρ.set i (some (oKS (oD e) y))))) : T.Q (FL.nb (putK l k x) K) (seqF (putS i fi f) F ρ) := by
  refine Tg.nq fun y hy => ?_
  obtain ⟨hl, rfl⟩ := chk_eq hy
  rw [seq_nx (putS_dK hs h hi rfl (by rw [List.length_map]; exact hl)) rfl]
  have := kk (putA l k x)
  unfold oKS at this
  obtain ⟨h1, h2⟩ := kput_map (e := oD e) inr_inj' k x l
  rw [← h1, ← h2] at this
  exact this
/-- an item of an item put -/
def setII (l : List (List α)) (i j : Int) (x : α) : Res (List (List α)) := nb (atL l i) fun r => nb (setI r j x) fun r' => setI l i r'
theorem ixN_lt {n : Nat} {i : Int} {j : Nat} (h : ixN n i = some j) : j < n := by
  unfold ixN at h
  repeat' split at h
  all_goals first | cases h; omega | cases h
theorem Tg.setLL {e : α → D} {l : List (List α)} {x : α} {k k2 : Int} {f fi fj : En → Res D} {K : List (List α) → Res β} (hs : ρ[i]? = some (some (oL (oL (oD e)) l))) (h : f ρ = .ok (e x)) (hi : fi ρ = .ok (eI k)) (hj : fj ρ = .ok (eI k2)) (kk : ∀ y, T.Q (K y) (F (ρ.set i (some (oL (oL (oD e)) y))))) : T.Q (FL.nb (setII l k k2 x) K) (seqF (FL.setLL i fi fj f) F ρ) := by
  refine Tg.nq fun y hy => ?_
  obtain ⟨r, h1, hy⟩ := nb_eq_ok hy
  obtain ⟨r', h2, hy⟩ := nb_eq_ok hy
  obtain ⟨j, hj1, rfl⟩ := setI_some hy
  obtain ⟨j2, hj2, rfl⟩ := setI_some h2
  have hr : l[j]? = some r := by
    have := atL_some h1
    unfold L2.atI at this
    rw [hj1] at this
    exact this
  have es : FL.setLL i fi fj f ρ = .nx (ρ.set i (some (oL (oL (oD e)) (l.set j (r.set j2 x))))) := by
    unfold FL.setLL
    rw [hs]
    unfold oL
    dsimp only
    rw [h, bindF_ok, hi, bindF_ok]
    dsimp only
    rw [List.length_map, hj1]
    dsimp only
    rw [List.getElem?_map, hr]
    dsimp only [Option.map]
    rw [hj, bindF_ok]
    dsimp only
    rw [List.length_map, hj2]
    dsimp only
    rw [List.map_set, List.map_set]; rfl
  rw [seq_nx es rfl]
  exact kk _
theorem oixP {e : α → D} {l : List α} {k : Int} {fi : En → Res D} (hs : ρ[i]? = some (some (oL (oD e) l))) (hi : fi ρ = .ok (eI k)) : Sm False e (atL l k) (oix i fi ρ) := by
  cases h : atL l k with
  | ok a =>
    unfold oix
    rw [hs]
    unfold oL
    dsimp only
    rw [hi, Res.bind_ok]
    dsimp only
    rw [atI_map, atL_some h]; rfl
  | ex x => exact fun z => z.elim
  | bad => exact trivial
theorem oix2P {e : α → D} {l : List (List α)} {k k2 : Int} {fi fj : En → Res D} (hs : ρ[i]? = some (some (oL (oL (oD e)) l))) (hi : fi ρ = .ok (eI k)) (hj : fj ρ = .ok (eI k2)) : Sm False e (nb (atL l k) fun r => atL r k2) (oix2 i fi fj ρ) := by
  cases h : nb (atL l k) fun r => atL r k2 with
  | ok a =>
    obtain ⟨r, h1, h2⟩ := nb_eq_ok h
    unfold oix2
    rw [hs]
    unfold oL
    dsimp only
    rw [hi, Res.bind_ok]
    dsimp only
    rw [atI_map, atL_some h1]
    dsimp only [Option.map]
    rw [hj, Res.bind_ok]
    dsimp only
    rw [atI_map, atL_some h2]; rfl
  | ex x => exact fun z => z.elim
  | bad => exact trivial
def oget : Option α → Res α
  | some a => .ok a
  | none => .bad
theorem Sm.get {e : α → D} {o : Option α} {r : Res D} (h : r = .ok (eO e o)) : Sm False e (oget o) r := by
  cases o with
  | some a => exact h
  | none => exact trivial
theorem isnO {e : α → D} (h : ∀ a, FL.isN (e a) = some (.bl false)) (x : Option α) : FL.isN (eO e x) = some (.bl x.isNone) := by
  cases x with
  | none => rfl
  | some a => exact h a
theorem notnO {e : α → D} (h : ∀ a, FL.notN (e a) = some (.bl true)) (x : Option α) : FL.notN (eO e x) = some (.bl x.isSome) := by
  cases x with
  | none => rfl
  | some a => exact h a
theorem isiO {e : α → D} {t : String} (h0 : isiD t .non = some (.bl false)) (h : ∀ a, isiD t (e a) = some (.bl true)) (x : Option α) : isiD t (eO e x) = some (.bl x.isSome) := by
  cases x with
  | none => exact h0
  | some a => exact h a
theorem isBlP (b c : Bool) : isBl b (eB c) = some (.bl (c == b)) := rfl
theorem notBlP (b c : Bool) : notBl b (eB c) = some (.bl (!(c == b))) := rfl
def mulI (i j : Int) : Res Int := chk ((-(2 ^ 64) < i ∧ i < 2 ^ 64) ∨ (-(2 ^ 64) < j ∧ j < 2 ^ 64)) (i * j)
theorem muI {i j : Int} (x : Int) (h : mulI i j = .ok x) : mulD (eI i) (eI j) = some (eI x) := by
  obtain ⟨hc, rfl⟩ := chk_eq h; clear h; have h := hc
  exact ev_mul h
def modI (i j : Int) : Res Int := chk (0 < j) (i % j)
theorem moI {i j : Int} (x : Int) (h : modI i j = .ok x) : modD (eI i) (eI j) = some (eI x) := by
  obtain ⟨hc, rfl⟩ := chk_eq h; clear h; have h := hc
  exact ev_mod h
def divI (i j : Int) : Res Int := chk (0 < j ∧ j < 1073741824) (i / j)
theorem diI {i j : Int} (x : Int) (h : divI i j = .ok x) : fdivD (eI i) (eI j) = some (eI x) := by
  obtain ⟨hc, rfl⟩ := chk_eq h; clear h; have h := hc
  exact ev_div h
def powI (i j : Int) : Res Int := chk (0 ≤ j ∧ j ≤ 1000000 ∧ i.natAbs < 2 ^ 64) (i ^ j.toNat)
theorem poI {i j : Int} (x : Int) (h : powI i j = .ok x) : powD (eI i) (eI j) = some (eI x) := by
  obtain ⟨hc, rfl⟩ := chk_eq h; clear h; have h := hc
  exact if_pos h
theorem mkLP {ds : List D} (h : ds.length ≤ 16777216 := by exact Nat.le_of_ble_eq_true rfl) : mkL ds = some (.lst ds) := if_pos h
theorem mkTP {ds : List D} (h : ds.length ≤ 16777216 := by exact Nat.le_of_ble_eq_true rfl) : mkT ds = some (.tup ds) := if_pos h
theorem mkOP {ds : List D} (h : ds.length ≤ 16777216 := by exact Nat.le_of_ble_eq_true rfl) : mkO ds = some (.lst (ds.map .d)) := if_pos h
end
end FL
/-! The typed layer, part D: order. -/
namespace FL
open PySem PySem.Spec PyProof.Rows L2
section
variable {α β γ δ : Type}
/-- data in order: alike, their < -/
structure Odr [DecidableEq α] (k : Nat) (e : α → D) (lt : α → α → Bool) : Prop where
  q : Eqn k e
  al : ∀ a b, PySem.W.alike (py (e a)) (py (e b)) = true
  lt : ∀ a b, PySem.W.dataLt (py (e a)) (py (e b)) = lt a b
  nn : ∀ a, noNon (e a) = true
  ev : ∀ a b, PyData.eqv (py (e a)) (py (e b)) = decide (a = b)
def ltI (a b : Int) : Bool := decide (a < b)
def ltS (a b : Str) : Bool := decide (a.cps.toList < b.cps.toList)
def ltT2 [DecidableEq α] (l1 : α → α → Bool) (l2 : β → β → Bool) (a b : α × β) : Bool := if a.1 = b.1 then l2 a.2 b.2 else l1 a.1 b.1
def ltT3 [DecidableEq α] [DecidableEq β] (l1 : α → α → Bool) (l2 : β → β → Bool) (l3 : γ → γ → Bool) (a b : α × β × γ) : Bool := if a.1 = b.1 then (if a.2.1 = b.2.1 then l3 a.2.2 b.2.2 else l2 a.2.1 b.2.1) else l1 a.1 b.1
def ltL [DecidableEq α] (lt : α → α → Bool) : List α → List α → Bool
  | [], [] => false
  | [], _ :: _ => true
  | _ :: _, [] => false
  | a :: l, b :: m => if a = b then ltL lt l m else lt a b
theorem evOf [DecidableEq α] {k : Nat} {e : α → D} (h : Eqn k e) (a b : α) (hk : k ≤ 60 := by decide) : PyData.eqv (py (e a)) (py (e b)) = decide (a = b) := by
  rw [eqv_py 60 _ _ (h.pl 60 a hk) (h.pl 60 b hk), h.eq]
theorem OdrI : Odr 0 eI ltI := ⟨EqnI, fun _ _ => rfl, fun a b => PySem.W.dataLt_int a b, fun _ => rfl, fun a b => evOf EqnI a b⟩
theorem OdrS : Odr 0 eS ltS := ⟨EqnS, fun _ _ => rfl, fun a b => PySem.W.dataLt_str a b, fun _ => rfl, fun a b => evOf EqnS a b⟩
theorem row0 : PyProof.Rows.lexLt itemOrd (PySem.W.keyToksAll []) (PySem.W.keyToksAll []) = false := by
  exact PyProof.Rows.lex_irrefl _
theorem row1 (x : PyData) (xs : List PyData) : PyProof.Rows.lexLt itemOrd (PySem.W.keyToksAll []) (PySem.W.keyToksAll (x :: xs)) = true := by
  unfold PySem.W.keyToksAll
  have := PySem.W.lex_atom (p := .inl 0) (q := .inl 1) (by decide) [] (PySem.W.keyToks x ++ PySem.W.keyToksAll xs)
  rw [this]; decide
theorem row2 (x : PyData) (xs : List PyData) : PyProof.Rows.lexLt itemOrd (PySem.W.keyToksAll (x :: xs)) (PySem.W.keyToksAll []) = false := by
  unfold PySem.W.keyToksAll
  have := PySem.W.lex_atom (p := .inl 1) (q := .inl 0) (by decide) (PySem.W.keyToks x ++ PySem.W.keyToksAll xs) []
  rw [this]; decide
theorem alikeAll_mp {e : α → D} (h : ∀ a b, PySem.W.alike (py (e a)) (py (e b)) = true) : ∀ l m : List α, PySem.W.alikeAll (pys (l.map e)) (pys (m.map e)) = true
  | [], m => by simp [pys, PySem.W.alikeAll]
  | _ :: _, [] => by simp [pys, PySem.W.alikeAll]
  | a :: l, b :: m => by
    rw [List.map_cons, List.map_cons, pys, pys, PySem.W.alikeAll, h, alikeAll_mp h l m]; rfl
theorem rowL [DecidableEq α] {k : Nat} {e : α → D} {lt : α → α → Bool} (o : Odr k e lt) : ∀ l m : List α, PyProof.Rows.lexLt itemOrd (PySem.W.keyToksAll (pys (l.map e))) (PySem.W.keyToksAll (pys (m.map e))) = ltL lt l m
  | [], [] => row0
  | [], _ :: _ => row1 _ _
  | _ :: _, [] => row2 _ _
  | a :: l, b :: m => by
    rw [List.map_cons, List.map_cons, pys, pys, PySem.W.dataLt_cons (o.al a b), o.ev, o.lt, rowL o l m]
    rw [show ltL lt (a :: l) (b :: m) = if a = b then ltL lt l m else lt a b from rfl]
    by_cases h : a = b
    · rw [if_pos (decide_eq_true h), if_pos h]
    · rw [if_neg (by rw [decide_eq_true_eq]; exact h), if_neg h]
theorem OdrL [DecidableEq α] {k : Nat} {e : α → D} {lt : α → α → Bool} (o : Odr k e lt) (hk : k + 1 ≤ 60 := by decide) : Odr (k + 1) (eL e) (ltL lt) :=
  ⟨EqnL o.q, fun a b => by unfold eL; rw [py, py, PySem.W.alike]; exact alikeAll_mp o.al a b, fun a b => by unfold eL; rw [py, py, PySem.W.dataLt_list]; exact rowL o a b, fun _ => rfl, fun a b => evOf (EqnL o.q) a b hk⟩
theorem OdrV [DecidableEq α] {k : Nat} {e : α → D} {lt : α → α → Bool} (o : Odr k e lt) (hk : k + 1 ≤ 60 := by decide) : Odr (k + 1) (eV e) (ltL lt) :=
  ⟨EqnV o.q, fun a b => by unfold eV; rw [py, py, PySem.W.alike]; exact alikeAll_mp o.al a b, fun a b => by unfold eV; rw [py, py, PySem.W.dataLt_tuple]; exact rowL o a b, fun _ => rfl, fun a b => evOf (EqnV o.q) a b hk⟩
theorem OdrT2 [DecidableEq α] [DecidableEq β] {k k2 : Nat} {e1 : α → D} {e2 : β → D} {l1 : α → α → Bool} {l2 : β → β → Bool} (o : Odr k e1 l1) (o2 : Odr k2 e2 l2) (hk : max k k2 + 1 ≤ 60 := by decide) : Odr (max k k2 + 1) (eT2 e1 e2) (ltT2 l1 l2) :=
  ⟨EqnT2 o.q o2.q, fun a b => by unfold eT2; simp only [py, pys, PySem.W.alike, PySem.W.alikeAll, o.al, o2.al, Bool.and_true], fun a b => by
    unfold eT2
    simp only [py, pys]
    rw [PySem.W.dataLt_tuple, PySem.W.dataLt_cons (o.al _ _), o.ev, o.lt, PySem.W.dataLt_cons (o2.al _ _), o2.ev, o2.lt, row0]
    unfold ltT2
    by_cases h : a.1 = b.1
    · rw [if_pos (decide_eq_true h), if_pos h]
      by_cases h2 : a.2 = b.2
      · rw [if_pos (decide_eq_true h2), h2, ← o2.lt]
        exact (PyProof.Rows.lex_irrefl _).symm
      · rw [if_neg (by rw [decide_eq_true_eq]; exact h2)]
    · rw [if_neg (by rw [decide_eq_true_eq]; exact h), if_neg h], fun _ => rfl, fun a b => evOf (EqnT2 o.q o2.q) a b hk⟩
theorem OdrT3 [DecidableEq α] [DecidableEq β] [DecidableEq γ] {k k2 k3 : Nat} {e1 : α → D} {e2 : β → D} {e3 : γ → D} {l1 : α → α → Bool} {l2 : β → β → Bool} {l3 : γ → γ → Bool} (o : Odr k e1 l1) (o2 : Odr k2 e2 l2) (o3 : Odr k3 e3 l3) (hk : max k (max k2 k3) + 1 ≤ 60 := by decide) : Odr (max k (max k2 k3) + 1) (eT3 e1 e2 e3) (ltT3 l1 l2 l3) :=
  ⟨EqnT3 o.q o2.q o3.q, fun a b => by unfold eT3; simp only [py, pys, PySem.W.alike, PySem.W.alikeAll, o.al, o2.al, o3.al, Bool.and_true], fun a b => by
    unfold eT3
    simp only [py, pys]
    rw [PySem.W.dataLt_tuple, PySem.W.dataLt_cons (o.al _ _), o.ev, o.lt, PySem.W.dataLt_cons (o2.al _ _), o2.ev, o2.lt, PySem.W.dataLt_cons (o3.al _ _), o3.ev, o3.lt, row0]
    unfold ltT3
    by_cases h : a.1 = b.1
    · rw [if_pos (decide_eq_true h), if_pos h]
      by_cases h2 : a.2.1 = b.2.1
      · rw [if_pos (decide_eq_true h2), if_pos h2]
        by_cases h3 : a.2.2 = b.2.2
        · rw [if_pos (decide_eq_true h3), h3, ← o3.lt]
          exact (PyProof.Rows.lex_irrefl _).symm
        · rw [if_neg (by rw [decide_eq_true_eq]; exact h3)]
      · rw [if_neg (by rw [decide_eq_true_eq]; exact h2), if_neg h2]
    · rw [if_neg (by rw [decide_eq_true_eq]; exact h), if_neg h], fun _ => rfl, fun a b => evOf (EqnT3 o.q o2.q o3.q) a b hk⟩
theorem ordP [DecidableEq α] {k : Nat} {e : α → D} {lt : α → α → Bool} (o : Odr k e lt) (f : Bool → Bool → Bool) (a b : α) (hk : k ≤ 60 := by decide) : ordD f (e a) (e b) = some (.bl (f (lt a b) (lt b a))) := by
  unfold ordD
  rw [o.q.pl 60 a hk, o.q.pl 60 b hk, o.al, o.lt, o.lt]; rfl
/-- the least, the greatest -/
def minB (lt : α → α → Bool) : List α → Res α
  | [] => .bad
  | x :: xs => .ok (xs.foldl (fun a y => if lt y a = true then y else a) x)
def maxB (lt : α → α → Bool) : List α → Res α
  | [] => .bad
  | x :: xs => .ok (xs.foldl (fun a y => if lt a y = true then y else a) x)
theorem minP_map [DecidableEq α] {k : Nat} {e : α → D} {lt : α → α → Bool} (o : Odr k e lt) : ∀ (xs : List α) (x : α), minP (e x) (xs.map e) = e (xs.foldl (fun a y => if lt y a = true then y else a) x)
  | [], _ => rfl
  | y :: ys, x => by
    have := minP_map o ys (if lt y x = true then y else x)
    unfold minP at this ⊢
    rw [List.map_cons, List.foldl_cons, List.foldl_cons, o.lt, ← this]
    congr 1
    split <;> rfl
theorem maxP_map [DecidableEq α] {k : Nat} {e : α → D} {lt : α → α → Bool} (o : Odr k e lt) : ∀ (xs : List α) (x : α), maxP (e x) (xs.map e) = e (xs.foldl (fun a y => if lt a y = true then y else a) x)
  | [], _ => rfl
  | y :: ys, x => by
    have := maxP_map o ys (if lt x y = true then y else x)
    unfold maxP at this ⊢
    rw [List.map_cons, List.foldl_cons, List.foldl_cons, o.lt, ← this]
    congr 1
    split <;> rfl
theorem allAl_map [DecidableEq α] {k : Nat} {e : α → D} {lt : α → α → Bool} (o : Odr k e lt) (hk : k ≤ 60) (l : List α) : allAl (l.map e) = true := by
  unfold allAl alikeP
  rw [all_map (fun a => o.q.pl 60 a hk), all_map o.nn, Bool.and_true, Bool.true_and]
  refine List.all_eq_true.mpr fun x hx => List.all_eq_true.mpr fun y hy => ?_
  obtain ⟨a, _, rfl⟩ := List.mem_map.mp hx
  obtain ⟨b, _, rfl⟩ := List.mem_map.mp hy
  exact o.al a b
theorem miB [DecidableEq α] {k : Nat} {e : α → D} {lt : α → α → Bool} (o : Odr k e lt) {l : List α} (hk : k ≤ 60) (a : α) (h : minB lt l = .ok a) : minA [eL e l] = some (e a) := by
  cases l with
  | nil => cases h
  | cons x xs =>
    cases h
    show (if allAl ((x :: xs).map e) = true then some (minP (e x) (xs.map e)) else none) = _
    rw [if_pos (allAl_map o hk _), minP_map o]
theorem maB [DecidableEq α] {k : Nat} {e : α → D} {lt : α → α → Bool} (o : Odr k e lt) {l : List α} (hk : k ≤ 60) (a : α) (h : maxB lt l = .ok a) : maxA [eL e l] = some (e a) := by
  cases l with
  | nil => cases h
  | cons x xs =>
    cases h
    show (if allAl ((x :: xs).map e) = true then some (maxP (e x) (xs.map e)) else none) = _
    rw [if_pos (allAl_map o hk _), maxP_map o]
theorem foldl_maxI : ∀ (ns : List Int) (n : Int), ns.foldl (fun a y => if ltI a y = true then y else a) n = ns.foldl max n
  | [], _ => rfl
  | m :: ns, n => by
    rw [List.foldl_cons, List.foldl_cons, foldl_maxI ns]
    congr 1
    unfold ltI
    by_cases h : n < m
    · rw [if_pos (decide_eq_true h)]; omega
    · rw [if_neg (by rw [decide_eq_true_eq]; exact h)]; omega
theorem foldl_minI : ∀ (ns : List Int) (n : Int), ns.foldl (fun a y => if ltI y a = true then y else a) n = ns.foldl min n
  | [], _ => rfl
  | m :: ns, n => by
    rw [List.foldl_cons, List.foldl_cons, foldl_minI ns]
    congr 1
    unfold ltI
    by_cases h : m < n
    · rw [if_pos (decide_eq_true h)]; omega
    · rw [if_neg (by rw [decide_eq_true_eq]; exact h)]; omega
theorem maI {l : List Int} (a : Int) (h : maxL l = .ok a) : maxA [eL eI l] = some (eI a) := maB OdrI (by decide) a (by
  cases l with
  | nil => cases h
  | cons n ns => cases h; exact congrArg Res.ok (foldl_maxI _ _))
theorem miI {l : List Int} (a : Int) (h : minL l = .ok a) : minA [eL eI l] = some (eI a) := miB OdrI (by decide) a (by
  cases l with
  | nil => cases h
  | cons n ns => cases h; exact congrArg Res.ok (foldl_minI _ _))
/-- .. with default= -/
def maxD0 (l : List Int) (d : Int) : Int := match l with
  | [] => d
  | n :: ns => ns.foldl max n
theorem mxD (l : List Int) (d : Int) : dfl maxA (eL eI l) (eI d) = some (eI (maxD0 l d)) := by
  cases l with
  | nil => rfl
  | cons n ns => exact maI (l := n :: ns) _ rfl
end
end FL
/-! The typed layer, part E: try, methods. -/
namespace FL
open PySem PySem.Spec PyProof.Rows L2
section
variable {α β γ δ σ τ R : Type}
/-- a thing that may raise, and what then -/
def exb (m : Res α) (h : Exn → Res β) (K : α → Res β) : Res β := match m with
  | .ok a => K a
  | .ex x => h x
  | .bad => .bad
@[simp] theorem exb_ok {a : α} {h : Exn → Res β} {K : α → Res β} : exb (.ok a) h K = K a := rfl
@[simp] theorem exb_ex {x : Exn} {h : Exn → Res β} {K : α → Res β} : exb (.ex x : Res α) h K = h x := rfl
def grd (TT : List Str) (h : Exn → Res β) (x : Exn) : Res β := if (decide (x.c ∈ TT) && x.p.isNone) = true then h x else .bad
def nox (m : Res β) : Res β := match m with
  | .ex _ => .bad
  | m => m
@[simp] theorem nox_ok {a : β} : nox (.ok a) = .ok a := rfl
/-- a try: what it does, given what is done where something is raised -/
def trF (h : τ → Exn → Res β) (m : (τ → Exn → Res β) → Res β) : Res β := m h
variable {T : Tg β} {ρ : En} {F A : En → Flw} {i : Nat}
theorem Tg.xasg {e : α → D} {m1 : Res α} {hd : Exn → Res β} {f : En → Res D} {K : α → Res β} (h : Sm True e m1 (f ρ)) (hx : ∀ x, T.Q (hd x) (.ex x ρ)) (k : ∀ x, T.Q (K x) (F (ρ.set i (some (.d (e x)))))) : T.Q (exb m1 hd K) (seqF (FL.asg i f) F ρ) := by
  cases m1 with
  | ok a => rw [seq_nx (asg_ok h) rfl]; exact k a
  | ex x => rw [seq_ex (asg_ex (h trivial))]; exact hx x
  | bad => exact T.bad _
theorem asgG_ex {g : D → En → Option En} {e : En → Res D} {x : Exn} (h : e ρ = .ex x) : asgG g e ρ = .ex x ρ := by unfold asgG; rw [h]; rfl
theorem Tg.asgGS {e : α → D} {m1 : Res α} {f : En → Res D} {K : α → Res β} {g : D → En → Option En} {ρ1 : α → En} (h : Sm True e m1 (f ρ)) (hx : T.X ρ) (hg : ∀ a, g (e a) ρ = some (ρ1 a)) (k : ∀ x, T.Q (K x) (F (ρ1 x))) : T.Q (m1.bind K) (seqF (FL.asgG g f) F ρ) := by
  cases m1 with
  | ok a => rw [seq_nx (asgG_ok h (hg a)) rfl]; exact k a
  | ex x => exact T.exw x _ fun _ => ⟨ρ, seq_ex (asgG_ex (h trivial)), hx⟩
  | bad => exact T.bad _
theorem Tg.xasgG {e : α → D} {m1 : Res α} {hd : Exn → Res β} {f : En → Res D} {K : α → Res β} {g : D → En → Option En} {ρ1 : α → En} (h : Sm True e m1 (f ρ)) (hx : ∀ x, T.Q (hd x) (.ex x ρ)) (hg : ∀ a, g (e a) ρ = some (ρ1 a)) (k : ∀ x, T.Q (K x) (F (ρ1 x))) : T.Q (exb m1 hd K) (seqF (FL.asgG g f) F ρ) := by
  cases m1 with
  | ok a => rw [seq_nx (asgG_ok h (hg a)) rfl]; exact k a
  | ex x => rw [seq_ex (asgG_ex (h trivial))]; exact hx x
  | bad => exact T.bad _
theorem Tg.xasgO {e : α → OT} {m1 : Res α} {hd : Exn → Res β} {f : En → Res OT} {K : α → Res β} (h : Sm True e m1 (f ρ)) (hx : ∀ x, T.Q (hd x) (.ex x ρ)) (k : ∀ x, T.Q (K x) (F (ρ.set i (some (e x))))) : T.Q (exb m1 hd K) (seqF (FL.asgO i f) F ρ) := by
  cases m1 with
  | ok a => rw [seq_nx (asgO_ok h) rfl]; exact k a
  | ex x => rw [seq_ex (asgO_ex (h trivial))]; exact hx x
  | bad => exact T.bad _
theorem Tg.xasgZ {e : α → D} {m1 : Res α} {hd : Exn → Res β} {f : En → Res OT} {K : α → Res β} (h : Sz True e m1 (f ρ)) (hx : ∀ x, T.Q (hd x) (.ex x ρ)) (k : ∀ x o, FL.fz o = e x → T.Q (K x) (F (ρ.set i (some o)))) : T.Q (exb m1 hd K) (seqF (FL.asgO i f) F ρ) := by
  cases m1 with
  | ok a => obtain ⟨o, h1, h2⟩ := h; rw [seq_nx (asgO_ok h1) rfl]; exact k a o h2
  | ex x => rw [seq_ex (asgO_ex (h trivial))]; exact hx x
  | bad => exact T.bad _
theorem Tg.xdrp {e : α → D} {m1 : Res α} {hd : Exn → Res β} {f : En → Res D} {m : Res β} (h : Sm True e m1 (f ρ)) (hx : ∀ x, T.Q (hd x) (.ex x ρ)) (k : T.Q m (F ρ)) : T.Q (exb m1 hd fun _ => m) (seqF (FL.drp f) F ρ) := by
  cases m1 with
  | ok a => rw [seq_nx (drp_ok h) rfl]; exact k
  | ex x => rw [seq_ex (drp_ex (h trivial))]; exact hx x
  | bad => exact T.bad _
theorem Tg.xret {e : α → D} {m1 : Res α} {hd : Exn → Res β} {f : En → Res D} {K : α → Res β} (h : Sm True e m1 (f ρ)) (hx : ∀ x, T.Q (hd x) (.ex x ρ)) (q : ∀ a, T.Q (K a) (.rt (.d (e a)) ρ)) : T.Q (exb m1 hd K) (seqF (FL.ret f) F ρ) := by
  cases m1 with
  | ok a => rw [seq_rt (ret_ok h)]; exact q a
  | ex x => rw [seq_ex (ret_ex (h trivial))]; exact hx x
  | bad => exact T.bad _
theorem Tg.xretO {e : α → OT} {m1 : Res α} {hd : Exn → Res β} {f : En → Res OT} {K : α → Res β} (h : Sm True e m1 (f ρ)) (hx : ∀ x, T.Q (hd x) (.ex x ρ)) (q : ∀ a, T.Q (K a) (.rt (e a) ρ)) : T.Q (exb m1 hd K) (seqF (FL.retO f) F ρ) := by
  cases m1 with
  | ok a => rw [seq_rt (retO_ok h)]; exact q a
  | ex x => rw [seq_ex (retO_ex (h trivial))]; exact hx x
  | bad => exact T.bad _
theorem Tg.xretZ {e : α → D} {m1 : Res α} {hd : Exn → Res β} {f : En → Res OT} {K : α → Res β} (h : Sz True e m1 (f ρ)) (hx : ∀ x, T.Q (hd x) (.ex x ρ)) (q : ∀ a o, FL.fz o = e a → T.Q (K a) (.rt o ρ)) : T.Q (exb m1 hd K) (seqF (FL.retO f) F ρ) := by
  cases m1 with
  | ok a => obtain ⟨o, h1, h2⟩ := h; rw [seq_rt (retO_ok h1)]; exact q a o h2
  | ex x => rw [seq_ex (retO_ex (h trivial))]; exact hx x
  | bad => exact T.bad _
/-- what comes behind the clauses -/
noncomputable def post (TT : List Str) (sub : Str → Str → Bool) (ks : List Clz) : Flw → Flw
  | .ex x ρ => if (decide (x.c ∈ TT) && x.p.isNone) = true then hdl sub ks x ρ else .bad
  | r => r
def tgT (T : Tg β) (TT : List Str) (sub : Str → Str → Bool) (ks : List Clz) : Tg β where
  Q m f := T.Q m (post TT sub ks f)
  w := True
  X := fun _ => False
  bad _ := T.bad _
  exw _ _ h := by
    obtain ⟨_, _, z⟩ := h trivial
    exact z.elim
/-- a part's end, that may be left -/
def tgL (w : Prop) (X : En → Prop) (er : R → OT → En → Prop) (N : σ → En → Prop) : Tg (Fl σ R) where
  Q m f := match m with
    | .ok (.nx s) => ∃ ρ, f = .nx ρ ∧ N s ρ
    | .ok (.bk _) => False
    | .ok (.rt r) => ∃ o ρ, f = .rt o ρ ∧ er r o ρ
    | .ex x => w → ∃ ρ, f = .ex x ρ ∧ X ρ
    | .bad => True
  w := w
  X := X
  bad _ := trivial
  exw _ _ h := h
structure IsL (T : Tg (Fl σ R)) (X : En → Prop) (er : R → OT → En → Prop) (N : σ → En → Prop) : Prop where
  rt : ∀ {r o ρ}, er r o ρ → T.Q (.ok (.rt r)) (.rt o ρ)
  nx : ∀ {s ρ}, N s ρ → T.Q (.ok (.nx s)) (.nx ρ)
  X : ∀ {ρ}, X ρ → T.X ρ
theorem tgL.is {w : Prop} {X : En → Prop} {er : R → OT → En → Prop} {N : σ → En → Prop} : IsL (tgL w X er N) X er N := ⟨fun h => ⟨_, _, rfl, h⟩, fun h => ⟨_, rfl, h⟩, fun h => h⟩
theorem Tg.try {TT : List Str} {sub : Str → Str → Bool} {er : R → OT → En → Prop} {N : σ → En → Prop} {NX : τ → En → Prop} {hd : τ → Exn → Res (Fl σ R)} {m : (τ → Exn → Res (Fl σ R)) → Res (Fl σ R)} {K : σ → Res β} {L : R → Res β} {ks : List Clz}
    (hh : ∀ T' : Tg (Fl σ R), IsL T' T.X er N → ∀ s x ρ, NX s ρ → T'.Q (hd s x) (hdl sub ks x ρ))
    (hb : ∀ T' : Tg (Fl σ R), IsL T' (fun _ => False) er N → ∀ h : τ → Exn → Res (Fl σ R), (∀ s x ρ, NX s ρ → T'.Q (h s x) (.ex x ρ)) → T'.Q (m h) (A ρ))
    (q : ∀ r o ρ', er r o ρ' → T.Q (L r) (.rt o ρ')) (k : ∀ s ρ', N s ρ' → T.Q (K s) (F ρ')) : T.Q ((trF (fun s => grd TT (hd s)) m).bind fun o => FL.fin o K L) (seqF (tryF TT sub A ks) F ρ) := by
  have is := tgL.is (w := T.w) (X := T.X) (er := er) (N := N)
  have e : tryF TT sub A ks ρ = post TT sub ks (A ρ) := by
    unfold tryF post
    cases A ρ <;> rfl
  have hb := hb (tgT (tgL T.w T.X er N) TT sub ks) ⟨fun h => is.rt h, fun h => is.nx h, fun h => h⟩ (fun s => grd TT (hd s)) fun s x ρ hn => by
    show (tgL T.w T.X er N).Q (grd TT (hd s) x) (if (decide (x.c ∈ TT) && x.p.isNone) = true then hdl sub ks x ρ else .bad)
    unfold grd
    split
    · exact hh _ is s x ρ hn
    · exact (tgL T.w T.X er N).bad _
  have hb : (tgL T.w T.X er N).Q (m fun s => grd TT (hd s)) (tryF TT sub A ks ρ) := by rw [e]; exact hb
  refine Tg.fin (N := N) (er := er) ?_ q k
  show match m fun s => grd TT (hd s) with
    | .ok (.nx s') => ∃ ρ', tryF TT sub A ks ρ = .nx ρ' ∧ N s' ρ'
    | .ok (.bk s') => ∃ ρ', tryF TT sub A ks ρ = .nx ρ' ∧ N s' ρ'
    | .ok (.rt r) => ∃ o ρ', tryF TT sub A ks ρ = .rt o ρ' ∧ er r o ρ'
    | .ex x => T.w → ∃ ρ', tryF TT sub A ks ρ = .ex x ρ' ∧ T.X ρ'
    | .bad => True
  generalize (m fun s => grd TT (hd s)) = m1 at hb ⊢
  cases m1 with
  | ok o => cases o with
    | nx s => exact hb
    | bk s => exact hb.elim
    | rt r => exact hb
  | ex x => exact hb
  | bad => trivial
/-! ### clauses, suites -/
theorem Tg.hdlN {sub : Str → Str → Bool} {x : Exn} (hX : T.X ρ) : T.Q (.ex x) (hdl sub [] x ρ) := T.exw _ _ fun _ => ⟨ρ, rfl, hX⟩
theorem Tg.hdlC {sub : Str → Str → Bool} {x : Exn} {c : Str} {n : Option Nat} {f : Addr → Str → En → Flw} {ks : List Clz} {m m2 : Res β} (h1 : T.Q m (allA fun a => unE n (f a x.c (setE n a ρ)))) (h2 : T.Q m2 (hdl sub ks x ρ)) : T.Q (if sub x.c c = true then m else m2) (hdl sub (⟨c, n, f⟩ :: ks) x ρ) := by
  have e : hdl sub (⟨c, n, f⟩ :: ks) x ρ = if sub x.c c = true then allA fun a => unE n (f a x.c (setE n a ρ)) else hdl sub ks x ρ := rfl
  rw [e]
  split
  · exact h1
  · exact h2
/-- a suite's end, told to the full -/
def tgE (n : Option Nat) (ΦN : σ → En) (Φ : R → OT) (len : Nat) : Tg (Fl σ R) where
  Q m f := match m with
    | .ok (.nx s) => unE n f = .nx (ΦN s)
    | .ok (.bk _) => False
    | .ok (.rt r) => unE n f = .rt (Φ r) (List.replicate len none)
    | .ex _ => True
    | .bad => True
  w := False
  X := fun _ => True
  bad _ := trivial
  exw _ _ _ := trivial
structure IsE (T : Tg (Fl σ R)) (n : Option Nat) (ΦN : σ → En) (Φ : R → OT) (len : Nat) : Prop where
  nx : ∀ {s ρ}, unE n (.nx ρ) = .nx (ΦN s) → T.Q (.ok (.nx s)) (.nx ρ)
  rt : ∀ {r o ρ}, o = Φ r → (hl : ρ.length = len := by rfl) → T.Q (.ok (.rt r)) (.rt o ρ)
  X : ∀ {ρ}, T.X ρ
theorem tgE.is {n : Option Nat} {ΦN : σ → En} {Φ : R → OT} {len : Nat} : IsE (tgE n ΦN Φ len) n ΦN Φ len := ⟨fun h => h, fun h hl => by
  subst h hl
  cases n <;> rfl, trivial⟩
theorem Tg.suite {T : Tg (Fl σ R)} {X : En → Prop} {er : R → OT → En → Prop} {N : σ → En → Prop} (is : IsL T X er N) {n : Option Nat} {ΦN : σ → En} {Φ : R → OT} {len : Nat} {m : Res (Fl σ R)} {g : Addr → Flw} (hm : ∀ a, ∀ T' : Tg (Fl σ R), IsE T' n ΦN Φ len → T'.Q m (g a)) (hN : ∀ s, N s (ΦN s)) (hR : ∀ r, er r (Φ r) (List.replicate len none)) :
    T.Q (nox m) (allA fun a => unE n (g a)) := by
  have hm := fun a => hm a _ tgE.is
  cases m with
  | ok o => cases o with
    | nx s =>
      rw [allA_of (f := fun a => unE n (g a)) (r := .nx (ΦN s)) fun a => hm a]
      exact is.nx (hN s)
    | bk s => exact (hm 0).elim
    | rt r =>
      rw [allA_of (f := fun a => unE n (g a)) (r := .rt (Φ r) (List.replicate len none)) fun a => hm a]
      exact is.rt (hR r)
  | ex x => exact T.bad _
  | bad => exact T.bad _
theorem op1X {a : Addr} {b : Bool} {f : En → Res D} (h : f ρ = .ok (.exn a)) : op1 (isX a b) f ρ = .ok (eB b) := by
  rw [ev_op1, h, Res.bind_ok, isX_self]; rfl
/-! ### methods of data -/
theorem Sm.met {Ty : String} {g : List D → Option D} {f : En → Res D} {fs : En → Res (List D)} {d : D} {ds : List D} {e : α → D} {m : Res α} (h : f ρ = .ok d) (hs : fs ρ = .ok ds) (ht : tyD Ty d = true) (hg : ∀ a, m = .ok a → g (d :: ds) = some (e a)) : Sm False e m (met Ty g f fs ρ) := by
  unfold FL.met
  rw [h, Res.bind_ok, if_pos ht, hs, Res.bind_ok]
  cases m with
  | ok a => rw [hg a rfl]; rfl
  | ex x => exact fun z => z.elim
  | bad => trivial
theorem metP {Ty : String} {g : List D → Option D} {f : En → Res D} {fs : En → Res (List D)} {d : D} {ds : List D} {y : D} (h : f ρ = .ok d) (hs : fs ρ = .ok ds) (ht : tyD Ty d = true) (hg : g (d :: ds) = some y) : met Ty g f fs ρ = .ok y := by
  unfold FL.met
  rw [h, Res.bind_ok, if_pos ht, hs, Res.bind_ok, hg]; rfl
def idxA [DecidableEq α] (l : List α) (a : α) : Res Int := if a ∈ l then .ok ((l.idxOf a : Nat) : Int) else .bad
theorem flats_map {e : α → D} (fl : ∀ a, flat (e a) = true) (l : List α) : (l.map e).all flat = true := List.all_eq_true.mpr fun d hd => by
  obtain ⟨a, _, rfl⟩ := List.mem_map.mp hd
  exact fl a
theorem cntP [DecidableEq α] {k : Nat} {e : α → D} (h : Eqn k e) (fl : ∀ a, flat (e a) = true) (l : List α) (a : α) : cntL [eL e l, e a] = some (eI (l.count a)) := by
  unfold cntL eL
  dsimp only
  rw [fl a, flats_map fl l, if_pos (by rfl), List.countP_map]
  congr 2
  rw [List.count_eq_countP]
  congr 2
  funext b
  show eqv (e b) (e a) = (b == a)
  rw [h.eq]; rfl
theorem idxN_map [DecidableEq α] {k : Nat} {e : α → D} (h : Eqn k e) (a : α) : ∀ l : List α, a ∈ l → idxN (e a) (l.map e) = some (l.idxOf a) := by
  intro l
  induction l with
  | nil => intro h; cases h
  | cons b l ih =>
    intro hm
    rw [List.map_cons, idxN, h.eq, List.idxOf_cons]
    by_cases hb : b = a
    · rw [decide_eq_true hb, if_pos rfl]
      simp [hb]
    · rw [decide_eq_false hb, if_neg Bool.false_ne_true, ih ((List.mem_cons.mp hm).resolve_left fun z => hb z.symm), show (b == a) = false by rw [beq_eq_false_iff_ne]; exact hb]; rfl
theorem idxP [DecidableEq α] {k : Nat} {e : α → D} (h : Eqn k e) (fl : ∀ a, flat (e a) = true) (l : List α) (a : α) : ∀ x, idxA l a = .ok x → idxL [eL e l, e a] = some (eI x) := by
  intro x hx
  unfold idxA at hx
  split at hx
  · rename_i hm
    cases hx
    unfold idxL eL
    dsimp only
    rw [fl a, flats_map fl l, if_pos (by rfl), idxN_map h a l hm]; rfl
  · cases hx
/-- a text so many times -/
def mulS (z : Str) (k : Int) : Res Str := chk (-(2 ^ 63) ≤ k ∧ k < 2 ^ 63 ∧ z.length * k.toNat ≤ 16777216) (repS z k.toNat)
theorem mulS_ok {z : Str} {k : Int} (h : -(2 ^ 63) ≤ k ∧ k < 2 ^ 63 ∧ z.length * k.toNat ≤ 16777216) : mulS z k = .ok (repS z k.toNat) := chk_ok h
theorem muS {z : Str} {k : Int} (x : Str) (h : mulS z k = .ok x) : mulD (eS z) (eI k) = some (eS x) := by
  obtain ⟨hc, rfl⟩ := chk_eq h
  show (if -(2 ^ 63) ≤ k ∧ k < 2 ^ 63 ∧ z.length * k.toNat ≤ 16777216 then some (D.str (repS z k.toNat)) else none) = _
  rw [if_pos hc]
end
end FL
/-! The typed layer, part F: methods that change owned lists. -/
namespace FL
open PySem PySem.Spec PyProof.Rows L2
section
variable {α β γ δ σ τ R : Type} {T : Tg β} {ρ : En} {F A : En → Flw} {s : Nat}
theorem mutF_here {M : List OT → List D → Option (List OT)} {fs : En → Res (List D)} {us us' : List OT} {ds : List D} (hs : ρ[s]? = some (some (.lst us))) (ha : fs ρ = .ok ds) (hM : M us ds = some us') : mutF s M (hereP s) fs ρ = .nx (ρ.set s (some (.lst us'))) := by
  unfold mutF
  have e : hereP s ρ = .ok [] := by unfold hereP; rw [hs]
  rw [e, bindF_ok, hs]
  dsimp only
  rw [show (OT.lst us).sub [] = some (.lst us) from rfl]
  dsimp only
  rw [ha, bindF_ok, hM]; rfl
theorem Tg.mutH {eo : α → OT} {l : List α} {M : List OT → List D → Option (List OT)} {m : Res (List α)} {fs : En → Res (List D)} {ds : List D} {K : List α → Res β} (hs : ρ[s]? = some (some (oL eo l))) (ha : fs ρ = .ok ds) (hM : ∀ l', m = .ok l' → M (l.map eo) ds = some (l'.map eo))
    (k : ∀ y, T.Q (K y) (F (ρ.set s (some (oL eo y))))) : T.Q (FL.nb m K) (seqF (mutF s M (hereP s) fs) F ρ) := by
  cases m with
  | ok y => rw [seq_nx (mutF_here hs ha (hM y rfl)) rfl]; exact k y
  | ex x => exact T.bad _
  | bad => exact T.bad _
theorem Tg.mutI {eo : α → OT} {l : List (List α)} {i : Int} {M : List OT → List D → Option (List OT)} {m : List α → Res (List α)} {fi : En → Res D} {fs : En → Res (List D)} {ds : List D} {K : List (List α) → Res β} (hs : ρ[s]? = some (some (oL (oL eo) l))) (hi : fi ρ = .ok (eI i)) (ha : fs ρ = .ok ds)
    (hM : ∀ r r', m r = .ok r' → M (r.map eo) ds = some (r'.map eo)) (k : ∀ y, T.Q (K y) (F (ρ.set s (some (oL (oL eo) y))))) : T.Q (FL.nb (atL l i) fun r => FL.nb (m r) fun r' => FL.nb (setI l i r') K) (seqF (mutF s M (ixP s (hereP s) fi) fs) F ρ) := by
  cases hr : atL l i with
  | ex x => exact T.bad _
  | bad => exact T.bad _
  | ok r =>
    rw [nb_ok]
    cases hm : m r with
    | ex x => exact T.bad _
    | bad => exact T.bad _
    | ok r' =>
      rw [nb_ok]
      have h1 := atL_some hr
      unfold L2.atI at h1
      cases hj : ixN l.length i with
      | none => rw [hj] at h1; cases h1
      | some j =>
        rw [hj] at h1
        have h1 : l[j]? = some r := h1
        have hset : setI l i r' = .ok (l.set j r') := by unfold setI; rw [hj]
        rw [hset, nb_ok]
        have e : mutF s M (ixP s (hereP s) fi) fs ρ = .nx (ρ.set s (some (oL (oL eo) (l.set j r')))) := by
          have e1 : hereP s ρ = .ok [] := by unfold hereP; rw [hs]
          have hsub : (oL (oL eo) l).sub [j] = some (.lst (r.map eo)) := by
            show (match (l.map (oL eo))[j]? with
              | some t => OT.sub t []
              | none => none) = _
            rw [List.getElem?_map, h1]; rfl
          have e2 : ixP s (hereP s) fi ρ = .ok [j] := by
            unfold ixP
            rw [e1, Res.bind_ok, hi, Res.bind_ok]
            unfold stepP
            rw [hs]
            dsimp only
            rw [show (oL (oL eo) l).sub [] = some (.lst (l.map (oL eo))) from rfl]
            dsimp only
            rw [List.length_map, hj]; rfl
          unfold mutF
          rw [e2, bindF_ok, hs]
          dsimp only
          rw [hsub]
          dsimp only
          rw [ha, bindF_ok, hM r r' hm]
          dsimp only
          congr 2
          show some (match (l.map (oL eo))[j]? with
            | some t => OT.lst ((l.map (oL eo)).set j (OT.put t [] (.lst (r'.map eo))))
            | none => .lst (l.map (oL eo))) = _
          rw [List.getElem?_map, h1]
          show some (OT.lst ((l.map (oL eo)).set j (oL eo r'))) = some (.lst ((l.set j r').map (oL eo)))
          rw [List.map_set]
        rw [seq_nx e rfl]; exact k _
/-! ### what they do -/
def insA (l : List α) (i : Int) (x : α) : Res (List α) := chk (0 ≤ i ∧ i < 2 ^ 63 ∧ l.length < 16777216) (l.take i.toNat ++ ([x] ++ l.drop i.toNat))
theorem insA_ok {l : List α} {i : Int} {x : α} (h : 0 ≤ i ∧ i < 2 ^ 63 ∧ l.length < 16777216) : insA l i x = .ok (l.take i.toNat ++ ([x] ++ l.drop i.toNat)) := chk_ok h
theorem insP {e : α → D} {l : List α} {i : Int} {x : α} (l' : List α) (h : insA l i x = .ok l') : insM (l.map (oD e)) [eI i, e x] = some (l'.map (oD e)) := by
  obtain ⟨hc, rfl⟩ := chk_eq h
  show (if 0 ≤ i ∧ i < 2 ^ 63 ∧ (l.map (oD e)).length < 16777216 then _ else _) = _
  rw [List.length_map, if_pos hc, List.map_append, List.map_append, List.map_take, List.map_drop]; rfl
def popA (l : List α) (i : Int) : Res (List α) := match ixN l.length i with
  | some k => chk (-(2 ^ 63) ≤ i ∧ i < 2 ^ 63) (l.take k ++ l.drop (k + 1))
  | none => .bad
theorem popA_ok {l : List α} {i : Nat} (h : i < l.length) (h2 : l.length ≤ 16777216) : popA l (i : Int) = .ok (l.take i ++ l.drop (i + 1)) := by
  unfold popA
  rw [ixN_in (by omega) (by omega), Int.toNat_natCast]
  dsimp only
  rw [chk_ok ⟨by omega, by omega⟩]
theorem popP {e : α → OT} {l : List α} {i : Int} (l' : List α) (h : popA l i = .ok l') : popM (l.map e) [eI i] = some (l'.map e) := by
  unfold popA at h
  split at h
  · rename_i k hk
    obtain ⟨hc, rfl⟩ := chk_eq h
    show (if -(2 ^ 63) ≤ i ∧ i < 2 ^ 63 then (ixN (l.map e).length i).map _ else none) = _
    rw [if_pos hc, List.length_map, hk, List.map_append, List.map_take, List.map_drop]; rfl
  · cases h
theorem revP {e : α → OT} {l : List α} (l' : List α) (h : (.ok l.reverse : Res (List α)) = .ok l') : revM (l.map e) [] = some (l'.map e) := by
  cases h
  show some (l.map e).reverse = _
  rw [List.map_reverse]
theorem clrP {e : α → OT} {l : List α} (l' : List α) (h : (.ok [] : Res (List α)) = .ok l') : clrM (l.map e) [] = some (l'.map e) := by
  cases h; rfl
theorem appP {e : α → D} {l : List α} {x : α} (l' : List α) (h : snoc l x = .ok l') : appM (l.map (oD e)) [e x] = some (l'.map (oD e)) := by
  obtain ⟨hc, rfl⟩ := chk_eq h
  show (if (l.map (oD e)).length < 16777216 then _ else _) = _
  rw [List.length_map, if_pos hc, List.map_append]; rfl
theorem extP {e : α → D} {l m : List α} (l' : List α) (h : cat l m = .ok l') : extM (l.map (oD e)) [eL e m] = some (l'.map (oD e)) := by
  obtain ⟨hc, rfl⟩ := chk_eq h
  show (if (l.map (oD e)).length + (m.map e).length ≤ 16777216 then some (l.map (oD e) ++ (m.map e).map .d) else none) = _
  rw [List.length_map, List.length_map, if_pos hc, List.map_append, List.map_map]; rfl
theorem extPV {e : α → D} {l m : List α} (l' : List α) (h : cat l m = .ok l') : extM (l.map (oD e)) [eV e m] = some (l'.map (oD e)) := by
  obtain ⟨hc, rfl⟩ := chk_eq h
  show (if (l.map (oD e)).length + (m.map e).length ≤ 16777216 then some (l.map (oD e) ++ (m.map e).map .d) else none) = _
  rw [List.length_map, List.length_map, if_pos hc, List.map_append, List.map_map]; rfl
def remA [DecidableEq α] (l : List α) (x : α) : Res (List α) := if x ∈ l then .ok (l.take (l.idxOf x) ++ l.drop (l.idxOf x + 1)) else .bad
theorem unD_map (l : List D) : unD (l.map .d) = some l := by
  induction l with
  | nil => rfl
  | cons x l ih => rw [List.map_cons, unD, ih]; rfl
theorem remP [DecidableEq α] {k : Nat} {e : α → D} (h : Eqn k e) {l : List α} {x : α} (l' : List α) (hk : k ≤ 64) (hx : remA l x = .ok l') : remM (l.map (oD e)) [e x] = some (l'.map (oD e)) := by
  unfold remA at hx
  split at hx
  · rename_i hm
    cases hx
    unfold remM
    dsimp only
    have e0 : unD (l.map (oD e)) = some (l.map e) := by
      rw [← unD_map (l.map e), List.map_map]; rfl
    rw [e0]
    dsimp only
    rw [h.pl 64 x hk, plains_map (n := 64) (fun a => h.pl 64 a hk) l, if_pos (by rfl), idxN_map h x l hm, List.map_append, List.map_take, List.map_drop]; rfl
  · cases hx
theorem wkLr {e : α → D} (l : List α) : rvI (eL e l) = some (l.reverse.map e) := by
  show some (l.map e).reverse = _
  rw [List.map_reverse]
theorem wkVr {e : α → D} (l : List α) : rvI (eV e l) = some (l.reverse.map e) := by
  show some (l.map e).reverse = _
  rw [List.map_reverse]
theorem Tg.get {o : Option α} {K : α → Res β} {f : Flw} (k : ∀ a, o = some a → T.Q (K a) f) : T.Q (FL.nb (oget o) K) f := by
  cases o with
  | none => exact T.bad _
  | some a => exact k a rfl
/-! ### tuples of which parts are owned -/
def oT2 (f : α → OT) (g : β → OT) : α × β → OT := fun p => .tup [f p.1, g p.2]
def oT3 (f : α → OT) (g : β → OT) (h : γ → OT) : α × β × γ → OT := fun p => .tup [f p.1, g p.2.1, h p.2.2]
theorem retT_ok {fs : En → Res (List (D ⊕ Nat))} {ws : List (D ⊕ Nat)} {ts : List OT} {ρ' : En} (h : fs ρ = .ok ws) (ht : takeM ws ρ = some (ts, ρ')) (hl : ts.length ≤ 16777216) : retT fs ρ = .rt (.tup ts) ρ' := by
  unfold retT
  rw [h, bindF_ok, ht]
  exact if_pos hl
theorem Tg.sretT {fs : En → Res (List (D ⊕ Nat))} {ws : List (D ⊕ Nat)} {ts : List OT} {ρ' : En} {m : Res β} (h : fs ρ = .ok ws) (ht : takeM ws ρ = some (ts, ρ')) (q : T.Q m (.rt (.tup ts) ρ')) (hl : ts.length ≤ 16777216 := by exact Nat.le_of_ble_eq_true rfl) : T.Q m (seqF (retT fs) F ρ) := by
  rw [seq_rt (retT_ok h ht hl)]; exact q
theorem nilME : nilM ρ = .ok [] := rfl
theorem consFE {f : En → Res D} {fs : En → Res (List (D ⊕ Nat))} {d : D} {ws : List (D ⊕ Nat)} (h : f ρ = .ok d) (h2 : fs ρ = .ok ws) : consF f fs ρ = .ok (.inl d :: ws) := by
  unfold consF
  rw [h, Res.bind_ok, h2]; rfl
theorem consME {i : Nat} {fs : En → Res (List (D ⊕ Nat))} {ws : List (D ⊕ Nat)} {t : OT} (h : ρ[i]? = some (some t)) (h2 : fs ρ = .ok ws) : consM i fs ρ = .ok (.inr i :: ws) := by
  unfold consM
  rw [h]
  dsimp only
  rw [h2]; rfl
theorem Tg.asgU {f : En → Res OT} {o : OT} {g : OT → En → Option En} {ρ1 : En} {m : Res β} (h : f ρ = .ok o) (hg : g o ρ = some ρ1) (k : T.Q m (F ρ1)) : T.Q m (seqF (FL.asgU g f) F ρ) := by
  have e : FL.asgU g f ρ = .nx ρ1 := by
    unfold FL.asgU
    rw [h, bindF_ok, hg]
  rw [seq_nx e rfl]; exact k
/-! ### lists of unlike things -/
def eH2 (e1 : α → D) (e2 : β → D) : α × β → D := fun p => .lst [e1 p.1, e2 p.2]
def eH3 (e1 : α → D) (e2 : β → D) (e3 : γ → D) : α × β × γ → D := fun p => .lst [e1 p.1, e2 p.2.1, e3 p.2.2]
theorem EqnH2 [DecidableEq α] [DecidableEq β] {k k2 : Nat} {e1 : α → D} {e2 : β → D} (h : Eqn k e1) (h2 : Eqn k2 e2) : Eqn (max k k2 + 1) (eH2 e1 e2) := ⟨fun a b => by
  obtain ⟨a1, a2⟩ := a; obtain ⟨b1, b2⟩ := b
  unfold eH2; simp only [eqv, eqvs, h.eq, h2.eq, Bool.and_true, Prod.mk.injEq, Bool.decide_and], fun n a hn => by
  obtain ⟨n, rfl⟩ : ∃ m, n = m + 1 := ⟨n - 1, by omega⟩
  unfold eH2; simp only [plain, plains, h.pl n _ (by omega), h2.pl n _ (by omega), Bool.and_true]⟩
theorem zT2 {f : α → OT} {g : β → OT} {e1 : α → D} {e2 : β → D} (h1 : ∀ a, fz (f a) = e1 a) (h2 : ∀ a, fz (g a) = e2 a) (p : α × β) : fz (oT2 f g p) = eT2 e1 e2 p := by
  obtain ⟨a, b⟩ := p
  show D.tup [fz (f a), fz (g b)] = D.tup [e1 a, e2 b]
  rw [h1, h2]
end
end FL
/-! The typed layer, part H: unchangeable leaves, part-frozen slots, paths, loops over owned parts. -/
namespace FL
open PySem PySem.Spec PyProof.Rows L2
section
variable {α β γ δ σ τ R : Type}
/-! ### unchangeable data -/
theorem imms_map {e : α → D} (h : ∀ a, imm (e a) = true) (l : List α) : imms (l.map e) = true := by
  induction l with
  | nil => rfl
  | cons a l ih => rw [List.map_cons, imms, ih, Bool.and_true]; exact h a
theorem imV {e : α → D} (h : ∀ a, imm (e a) = true) (l : List α) : imm (eV e l) = true := by unfold eV; rw [imm, imms_map h]
theorem imT1 {e1 : α → D} (h1 : ∀ a, imm (e1 a) = true) (p : α) : imm (eT1 e1 p) = true := by simp [eT1, imm, imms, h1]
theorem imT2 {e1 : α → D} {e2 : β → D} (h1 : ∀ a, imm (e1 a) = true) (h2 : ∀ a, imm (e2 a) = true) (p : α × β) : imm (eT2 e1 e2 p) = true := by simp [eT2, imm, imms, h1, h2]
theorem imT3 {e1 : α → D} {e2 : β → D} {e3 : γ → D} (h1 : ∀ a, imm (e1 a) = true) (h2 : ∀ a, imm (e2 a) = true) (h3 : ∀ a, imm (e3 a) = true) (p : α × β × γ) : imm (eT3 e1 e2 e3 p) = true := by simp [eT3, imm, imms, h1, h2, h3]
theorem imT4 {e1 : α → D} {e2 : β → D} {e3 : γ → D} {e4 : δ → D} (h1 : ∀ a, imm (e1 a) = true) (h2 : ∀ a, imm (e2 a) = true) (h3 : ∀ a, imm (e3 a) = true) (h4 : ∀ a, imm (e4 a) = true) (p : α × β × γ × δ) : imm (eT4 e1 e2 e3 e4 p) = true := by simp [eT4, imm, imms, h1, h2, h3, h4]
theorem imO {e : α → D} (h : ∀ a, imm (e a) = true) : ∀ o : Option α, imm (eO e o) = true
  | none => rfl
  | some a => h a
theorem immTs_map {e : α → OT} (h : ∀ a, immT (e a) = true) (l : List α) : immTs (l.map e) = true := by
  induction l with
  | nil => rfl
  | cons a l ih => rw [List.map_cons, immTs, ih, Bool.and_true]; exact h a
theorem imD {e : α → D} (h : ∀ a, imm (e a) = true) (a : α) : immT (oD e a) = true := by unfold oD; rw [immT]; exact h a
theorem imL {e : α → OT} (h : ∀ a, immT (e a) = true) (l : List α) : immT (oL e l) = true := by unfold oL; rw [immT, immTs_map h]
theorem imKI {e : α → OT} (h : ∀ a, immT (e a) = true) (l : List (Int × α)) : immT (oKI e l) = true := by
  unfold oKI; rw [immT]; exact immTs_map (e := fun p : Int × α => e p.2) (fun p => h p.2) l
theorem imKS {e : α → OT} (h : ∀ a, immT (e a) = true) (l : List (Str × α)) : immT (oKS e l) = true := by
  unfold oKS; rw [immT]; exact immTs_map (e := fun p : Str × α => e p.2) (fun p => h p.2) l
theorem imOO {e : α → OT} (h : ∀ a, immT (e a) = true) : ∀ o : Option α, immT (oO e o) = true
  | none => rfl
  | some a => h a
theorem imTT2 {f : α → OT} {g : β → OT} (h1 : ∀ a, immT (f a) = true) (h2 : ∀ a, immT (g a) = true) (p : α × β) : immT (oT2 f g p) = true := by simp [oT2, immT, immTs, h1, h2]
/-! ### no tuple owned -/
theorem noTs_map {e : α → OT} (h : ∀ a, noT (e a) = true) (l : List α) : noTs (l.map e) = true := by
  induction l with
  | nil => rfl
  | cons a l ih => rw [List.map_cons, noTs, ih, Bool.and_true]; exact h a
theorem ntD {e : α → D} (a : α) : noT (oD e a) = true := rfl
theorem ntL {e : α → OT} (h : ∀ a, noT (e a) = true) (l : List α) : noT (oL e l) = true := by unfold oL; rw [noT, noTs_map h]
theorem ntKI {e : α → OT} (h : ∀ a, noT (e a) = true) (l : List (Int × α)) : noT (oKI e l) = true := by
  unfold oKI; rw [noT]; exact noTs_map (e := fun p : Int × α => e p.2) (fun p => h p.2) l
theorem ntKS {e : α → OT} (h : ∀ a, noT (e a) = true) (l : List (Str × α)) : noT (oKS e l) = true := by
  unfold oKS; rw [noT]; exact noTs_map (e := fun p : Str × α => e p.2) (fun p => h p.2) l
theorem ntOO {e : α → OT} (h : ∀ a, noT (e a) = true) : ∀ o : Option α, noT (oO e o) = true
  | none => rfl
  | some a => h a
theorem ne00 : noE [] = true := rfl
theorem neNn {ρ : En} (h : noE ρ = true) : noE (none :: ρ) = true := h
theorem neDd {ρ : En} {d : D} (h : noE ρ = true) : noE (some (.d d) :: ρ) = true := h
theorem neOo {ρ : En} {o : OT} (z : noT o = true) (h : noE ρ = true) : noE (some o :: ρ) = true := by
  unfold noE at h ⊢
  rw [List.all_cons, h, Bool.and_true]; exact z
/-! ### statements under part-frozen slots -/
theorem okT_fl {nt : Bool} {t : OT} (h : flatT t = true) : okT nt t = true := by unfold okT; rw [h]; rfl
theorem okT_im {nt : Bool} {t : OT} (hn : nt = true) (h : immT t = true) : okT nt t = true := by unfold okT; rw [h, hn]; simp
theorem mx0 {nt : Bool} {ks : List Nat} {i : Nat} : mixE nt ks i [] [] = [] := rfl
/-- a slot that is kept -/
theorem mxK {nt : Bool} {ks : List Nat} {i : Nat} {a b : Option OT} {ρ ρ' ρm : En} (hk : ks.contains i = true) (h : mixE nt ks (i + 1) ρ ρ' = ρm) : mixE nt ks i (a :: ρ) (b :: ρ') = a :: ρm := by
  rw [mixE, if_pos hk, h]
theorem mxN {nt : Bool} {ks : List Nat} {i : Nat} {a : Option OT} {ρ ρ' ρm : En} (hk : ks.contains i = false) (h : mixE nt ks (i + 1) ρ ρ' = ρm) : mixE nt ks i (a :: ρ) (none :: ρ') = none :: ρm := by
  rw [mixE, if_neg (by rw [hk]; exact Bool.false_ne_true), h]; rfl
theorem mxY {nt : Bool} {ks : List Nat} {i : Nat} {a : Option OT} {t : OT} {ρ ρ' ρm : En} (hk : ks.contains i = false) (ht : okT nt t = true) (h : mixE nt ks (i + 1) ρ ρ' = ρm) : mixE nt ks i (a :: ρ) (some t :: ρ') = some t :: ρm := by
  rw [mixE, if_neg (by rw [hk]; exact Bool.false_ne_true), h, flatO, if_pos ht]
/-- a slot of which nothing is known behind -/
theorem mxJ {nt : Bool} {ks : List Nat} {i : Nat} {a b : Option OT} {ρ ρ' ρm : En} (hk : ks.contains i = false) (h : mixE nt ks (i + 1) ρ ρ' = ρm) : mixE nt ks i (a :: ρ) (b :: ρ') = flatO nt b :: ρm := by
  rw [mixE, if_neg (by rw [hk]; exact Bool.false_ne_true), h]
theorem mixGo {β : Type} {T : Tg β} {m : Res β} {F : En → Flw} {nt : Bool} {ks : List Nat} {ρ ρ' ρm : En} (h : mixE nt ks 0 ρ ρ' = ρm) (k : T.Q m (F ρm)) : T.Q m (F (mixE nt ks 0 ρ ρ')) := by rw [h]; exact k
theorem nk0 {ρ : En} : noK [] ρ = true := rfl
theorem nkC {ρ : En} {k : Nat} {ks : List Nat} (h : (match ρ[k]? with
  | some (some t) => noT t
  | _ => true) = true) (h2 : noK ks ρ = true) : noK (k :: ks) ρ = true := by
  unfold noK at h2 ⊢
  rw [List.all_cons, h2, Bool.and_true]; exact h
/-- what is frozen of an environment -/
theorem fk0 {ks : List Nat} {i : Nat} : frzK ks i [] = [] := rfl
theorem fkN {ks : List Nat} {i : Nat} {ρ ρ' : En} (h : frzK ks (i + 1) ρ = ρ') : frzK ks i (none :: ρ) = none :: ρ' := by
  rw [frzK, h]; cases ks.contains i <;> rfl
theorem fkD {ks : List Nat} {i : Nat} {ρ ρ' : En} {d : D} (h : frzK ks (i + 1) ρ = ρ') : frzK ks i (some (.d d) :: ρ) = some (.d d) :: ρ' := by
  rw [frzK, h]; cases ks.contains i <;> rfl
theorem fkO {ks : List Nat} {i : Nat} {ρ ρ' : En} {o : OT} {d : D} (hk : ks.contains i = true) (z : fz o = d) (h : frzK ks (i + 1) ρ = ρ') : frzK ks i (some o :: ρ) = some (.d d) :: ρ' := by
  rw [frzK, h, if_pos hk, ← z]; rfl
theorem fkX {ks : List Nat} {i : Nat} {ρ ρ' : En} {o : Option OT} (hk : ks.contains i = false) (h : frzK ks (i + 1) ρ = ρ') : frzK ks i (o :: ρ) = o :: ρ' := by
  rw [frzK, h, if_neg (by rw [hk]; exact Bool.false_ne_true)]
section
variable {T : Tg β} {ρ : En} {F A : En → Flw} {i : Nat}
theorem Tg.bor {er : R → OT → En → Prop} {N : σ → En → Prop} {m1 : Res (Fl σ R)} {K : σ → Res β} {L : R → Res β} {ks : List Nat} {ρf : En} {nt : Bool} (hk : ks.all (inE ρ) = true) (hn : noK ks ρ = nt) (hf : frzK ks 0 ρ = ρf)
    (h : ∀ T' : Tg (Fl σ R), IsL T' (fun _ => False) er N → T'.Q m1 (A ρf)) (hl : ∀ s ρ', N s ρ' → ρ'.length = ρ.length) (q : ∀ r o ρ', er r o ρ' → ρ'.length = ρ.length ∧ okT nt o = true ∧ ∀ ρ'', T.Q (L r) (.rt o ρ''))
    (k : ∀ s ρ', N s ρ' → T.Q (K s) (F (mixE nt ks 0 ρ ρ'))) : T.Q (FL.nb m1 fun o => FL.fin o K L) (seqF (borF ks A) F ρ) := by
  have h' := h (tgL False (fun _ => False) er N) tgL.is
  unfold tgL at h'
  have e0 : borF ks A ρ = borW nt ks ρ (A ρf) := by unfold borF; rw [if_pos hk, hn, hf]
  unfold seqF
  rw [e0]
  cases m1 with
  | bad => exact T.bad _
  | ex x => exact T.bad _
  | ok o =>
    cases o with
    | nx s =>
      obtain ⟨ρ', e, hN⟩ := h'
      rw [e]
      show T.Q (K s) (match mixF nt ks ρ ρ' .nx with | .nx ρ' => F ρ' | r => r)
      unfold mixF
      rw [if_pos (hl s ρ' hN)]
      exact k s ρ' hN
    | bk s => exact h'.elim
    | rt r =>
      obtain ⟨o, ρ', e, hr⟩ := h'
      rw [e]
      obtain ⟨q1, q2, q3⟩ := q r o ρ' hr
      show T.Q (L r) (match (if okT nt o = true then mixF nt ks ρ ρ' (.rt o) else .bad) with | .nx ρ' => F ρ' | r => r)
      rw [if_pos q2]
      unfold mixF
      rw [if_pos q1]
      exact q3 _
end
/-! ### paths -/
/-- at the path stands a; with a' there the slot has back a' -/
def PathOK (ρ : En) (o : OT) (f : En → Res (List Nat)) (a : OT) (back : OT → OT) : Prop := ∃ p, f ρ = .ok p ∧ o.sub p = some a ∧ ∀ a', o.put p a' = back a'
variable {ρ : En} {s : Nat} {o : OT} {f : En → Res (List Nat)} {fi : En → Res D} {back : OT → OT}
theorem pthH (hs : ρ[s]? = some (some o)) : PathOK ρ o (hereP s) o id := ⟨[], by unfold hereP; rw [hs], rfl, fun a' => rfl⟩
theorem pthL {l : List OT} {i : Int} {j : Nat} {x : OT} (hs : ρ[s]? = some (some o)) (h : PathOK ρ o f (.lst l) back) (hi : fi ρ = .ok (eI i)) (hj : ixN l.length i = some j) (hx : l[j]? = some x) : PathOK ρ o (ixP s f fi) x (fun a' => back (.lst (l.set j a'))) := by
  obtain ⟨p, h1, h2, h3⟩ := h
  refine ⟨p ++ [j], by unfold ixP stepP; rw [h1, Res.bind_ok, hi, Res.bind_ok, hs]; simp only [h2, hj], ?_, fun a' => ?_⟩
  · rw [sub_app h2, OT.sub]
    simp only [kids, hx]
    rfl
  · rw [put_app h2, OT.put]
    simp only [kids, hx]
    rw [h3]; rfl
theorem pthT {l : List OT} {i : Int} {j : Nat} {x : OT} (hs : ρ[s]? = some (some o)) (h : PathOK ρ o f (.tup l) back) (hi : fi ρ = .ok (eI i)) (hj : ixN l.length i = some j) (hx : l[j]? = some x) : PathOK ρ o (ixP s f fi) x (fun a' => back (.tup (l.set j a'))) := by
  obtain ⟨p, h1, h2, h3⟩ := h
  refine ⟨p ++ [j], by unfold ixP stepP; rw [h1, Res.bind_ok, hi, Res.bind_ok, hs]; simp only [h2, hj], ?_, fun a' => ?_⟩
  · rw [sub_app h2, OT.sub]
    simp only [kids, hx]
    rfl
  · rw [put_app h2, OT.put]
    simp only [kids, hx]
    rw [h3]; rfl
theorem atL_ix {l : List α} {i : Int} {x : α} (h : atL l i = .ok x) : ∃ j, ixN l.length i = some j ∧ l[j]? = some x := by
  have := atL_some h
  unfold L2.atI at this
  exact Option.bind_eq_some_iff.mp this
/-! ### loops over owned parts -/
def foM (body : α → σ → Res (α × σ)) : List α → σ → Res (List α × σ)
  | [], s => .ok ([], s)
  | x :: xs, s => nb (body x s) fun p => nb (foM body xs p.2) fun q => .ok (p.1 :: q.1, q.2)
def tgM (i : Nat) (NB : α × σ → En → Prop) : Tg (α × σ) where
  Q m f := match m with
    | .ok p => ∃ ρ, (f = .nx ρ ∨ f = .ct ρ) ∧ NB p ρ
    | _ => True
  w := False
  X := fun _ => True
  bad _ := trivial
  exw _ _ _ := trivial
structure IsM (T : Tg (α × σ)) (NB : α × σ → En → Prop) : Prop where
  nx : ∀ {p ρ}, NB p ρ → T.Q (.ok p) (.nx ρ)
  ct : ∀ {p ρ}, NB p ρ → T.Q (.ok p) (.ct ρ)
  X : ∀ {ρ}, T.X ρ
theorem forM_sim {sl i : Nat} {N : σ → En → Prop} {eo : α → OT} {body : α → σ → Res (α × σ)} {A : En → Flw} {p : List Nat} (hne : sl ≠ i) (hlen : ∀ s ρ, N s ρ → sl < ρ.length ∧ i < ρ.length) (hset : ∀ s ρ x, N s ρ → N s (ρ.set sl x))
    (hb : ∀ a s ρ, N s ρ → (tgM i (fun (p : α × σ) ρ2 => ρ2[i]? = some (some (eo p.1)) ∧ ∀ x, N p.2 ((ρ2.set sl x).set i none))).Q (body a s) (A ((ρ.set sl none).set i (some (eo a))))) :
    ∀ (xs done : List α) (s : σ) (ρ : En) (o : OT), N s ρ → ρ[sl]? = some (some o) → o.sub p = some (.lst ((done ++ xs).map eo)) → match foM body xs s with
      | .ok (ys, s') => ∃ ρ', forMJ sl i p A xs.length done.length ρ = .nx ρ' ∧ N s' ρ' ∧ ρ'[sl]? = some (some (o.put p (.lst ((done ++ ys).map eo))))
      | _ => True
  | [], done, s, ρ, o, hN, hs, ho => by
    refine ⟨ρ, rfl, hN, ?_⟩
    rw [hs, List.append_nil]
    congr 2
    rw [List.append_nil] at ho
    exact (put_sub ho).symm
  | x :: xs, done, s, ρ, o, hN, hs, ho => by
    have hb1 := hb x s ρ hN
    unfold foM
    cases eb : body x s with
    | bad => exact trivial
    | ex c => exact trivial
    | ok q =>
      obtain ⟨x', s'⟩ := q
      rw [eb] at hb1
      obtain ⟨ρ2, e2, h1, h2⟩ := hb1
      have hnew : ρ2.length = ρ2.length := rfl
      have hx : ((done ++ x :: xs).map eo)[done.length]? = some (eo x) := by
        rw [List.getElem?_map, List.getElem?_append_right (Nat.le_refl _), Nat.sub_self]; rfl
      have hset2 : ((done ++ x :: xs).map eo).set done.length (eo x') = ((done ++ [x']) ++ xs).map eo := by
        rw [List.map_append, List.map_append, List.map_append, List.set_append_right _ _ (by rw [List.length_map]; exact Nat.le_refl _), List.length_map, Nat.sub_self]
        simp
      have N2 := h2 (some (o.put p (.lst (((done ++ [x']) ++ xs).map eo))))
      have l2 := hlen _ _ N2
      rw [List.length_set, List.length_set] at l2
      have s2 : ((ρ2.set sl (some (o.put p (.lst (((done ++ [x']) ++ xs).map eo))))).set i none)[sl]? = some (some (o.put p (.lst (((done ++ [x']) ++ xs).map eo)))) := by
        rw [List.getElem?_set_ne hne.symm, List.getElem?_set_self l2.1]
      have ih := forM_sim (p := p) hne hlen hset hb xs (done ++ [x']) s' _ _ N2 s2 (sub_put ho)
      show match (nb (foM body xs s') fun q => .ok (x' :: q.1, q.2) : Res (List α × σ)) with
        | .ok (ys, s') => _
        | _ => True
      cases ef : foM body xs s' with
      | bad => exact trivial
      | ex c => exact trivial
      | ok q =>
        obtain ⟨ys, s3⟩ := q
        rw [ef] at ih
        obtain ⟨ρ3, a1, a2, a3⟩ := ih
        refine ⟨ρ3, ?_, a2, ?_⟩
        · rw [List.length_append, List.length_singleton] at a1
          show forMJ sl i p A (xs.length + 1) done.length ρ = _
          unfold forMJ
          rw [if_pos (hlen _ _ hN).2, hs]
          dsimp only
          rw [ho]
          dsimp only
          rw [hx]
          dsimp only
          have back : ∀ k : En → Flw, backM sl i p o ((done ++ x :: xs).map eo) done.length ρ2 k = k ((ρ2.set sl (some (o.put p (.lst (((done ++ [x']) ++ xs).map eo))))).set i none) := fun k => by
            unfold backM
            rw [h1]
            dsimp only
            rw [hset2]
          rcases e2 with e2 | e2
          · rw [e2]; dsimp only; rw [back]; exact a1
          · rw [e2]; dsimp only; rw [back]; exact a1
        · rw [a3]
          rw [put_put ho]
          simp
theorem Tg.forM {T : Tg β} {F A : En → Flw} {i : Nat} {N : σ → En → Prop} {eo : α → OT} {l : List α} {s0 : σ} {body : α → σ → Res (α × σ)} {K : List α × σ → Res β} (hs : ρ[s]? = some (some o)) (hp : PathOK ρ o f (oL eo l) back) (hne : s ≠ i) (h0 : N s0 ρ) (hlen : ∀ s' ρ, N s' ρ → s < ρ.length ∧ i < ρ.length) (hset : ∀ s' ρ x, N s' ρ → N s' (ρ.set s x))
    (hb : ∀ T' : Tg (α × σ), IsM T' (fun (p : α × σ) ρ2 => ρ2[i]? = some (some (eo p.1)) ∧ ∀ x, N p.2 ((ρ2.set s x).set i none)) → ∀ a s' ρ, N s' ρ → T'.Q (body a s') (A ((ρ.set s none).set i (some (eo a)))))
    (k : ∀ l' s' ρ', N s' ρ' → T.Q (K (l', s')) (F (ρ'.set s (some (back (oL eo l')))))) : T.Q (FL.nb (foM body l s0) K) (seqF (FL.forW s i f A) F ρ) := by
  obtain ⟨p, h1, h2, h3⟩ := hp
  have hb' := fun a s' ρ hN => hb (tgM i _) ⟨fun h => ⟨_, .inl rfl, h⟩, fun h => ⟨_, .inr rfl, h⟩, trivial⟩ a s' ρ hN
  have sim := forM_sim (p := p) hne hlen hset hb' l [] s0 ρ o h0 hs h2
  unfold seqF FL.forW
  rw [h1, bindF_ok, hs]
  dsimp only
  rw [h2]
  unfold oL
  dsimp only
  rw [List.length_map]
  cases ef : foM body l s0 with
  | bad => exact T.bad _
  | ex c => exact T.bad _
  | ok q =>
    obtain ⟨ys, s3⟩ := q
    rw [ef] at sim
    obtain ⟨ρ3, a1, a2, a3⟩ := sim
    have a1 : forMJ s i p A l.length 0 ρ = .nx ρ3 := a1
    rw [a1]
    have := k ys s3 ρ3 a2
    rw [h3] at a3
    rw [show ρ3.set s (some (back (oL eo ys))) = ρ3 from set_self a3] at this
    exact this
/-- a method at a path -/
theorem Tg.mutP {T : Tg β} {F : En → Flw} {eo : α → OT} {l : List α} {eS : σ → OT} {st : List α → Res σ} {M : List OT → List D → Option (List OT)} {m : Res (List α)} {fs : En → Res (List D)} {ds : List D} {K : σ → Res β} (hs : ρ[s]? = some (some o)) (hp : PathOK ρ o f (oL eo l) back) (ha : fs ρ = .ok ds)
    (hM : ∀ l', m = .ok l' → M (l.map eo) ds = some (l'.map eo)) (hb : ∀ l' s', st l' = .ok s' → back (oL eo l') = eS s') (k : ∀ y, T.Q (K y) (F (ρ.set s (some (eS y))))) : T.Q (FL.nb m fun l' => FL.nb (st l') K) (seqF (mutF s M f fs) F ρ) := by
  obtain ⟨p, h1, h2, h3⟩ := hp
  cases m with
  | bad => exact T.bad _
  | ex c => exact T.bad _
  | ok l' =>
    show T.Q (FL.nb (st l') K) _
    cases e : st l' with
    | bad => exact T.bad _
    | ex c => exact T.bad _
    | ok s' =>
      have := k s'
      rw [← hb l' s' e, ← h3] at this
      unfold seqF mutF
      rw [h1, bindF_ok, hs]
      dsimp only
      rw [h2]
      unfold oL
      dsimp only
      rw [ha, bindF_ok, hM l' rfl]
      exact this
end
end FL
/-! The typed layer, part I: expressions that change something. -/
namespace FL
open PySem PySem.Spec PyProof.Rows L2
section
variable {α β γ δ σ τ R : Type} {ρ ρ1 ρ2 : En}
theorem xF_ok {f : En → Res D} {d : D} (h : f ρ = .ok d) : xF f ρ = .ok (.d d) ρ := by unfold xF; rw [h]
theorem xO_ok {f : En → Res OT} {t : OT} (h : f ρ = .ok t) : xO f ρ = .ok t ρ := by unfold xO; rw [h]
theorem mvX_ok {i : Nat} {t : OT} (h : ρ[i]? = some (some t)) : mvX i ρ = .ok t (ρ.set i none) := by unfold mvX; rw [h]
/-! lists of arguments -/
def OwnOK (fs : En → ResA) (ρ : En) (ts : List OT) (ρ2 : En) : Prop := ∃ as, fs ρ = .ok as ρ2 ∧ ownTs as = some ts
theorem oNilX : OwnOK nilX ρ [] ρ := ⟨[], rfl, rfl⟩
theorem oConsX {f : En → ResX} {fs : En → ResA} {t : OT} {ts : List OT} (h : f ρ = .ok t ρ1) (h2 : OwnOK fs ρ1 ts ρ2) : OwnOK (consX f fs) ρ (t :: ts) ρ2 := by
  obtain ⟨as, a, b⟩ := h2
  exact ⟨.own t :: as, by unfold consX; rw [h]; dsimp only; rw [a]; rfl, by rw [ownTs, b]; rfl⟩
/-- the arguments ts of the mask m; what is lent comes back by fin -/
def ArgOK (fs : En → ResA) (ρ : En) (m : List Bool) (ts : List OT) (ρ2 : En) (fin : List OT → En → En) : Prop := ∃ as, fs ρ = .ok as ρ2 ∧ maskOf as = m ∧ argTs as = some ts ∧ ∀ outs, outs.length = m.count true → ∃ l, lents as outs = some l ∧ ∀ ρ', setAll l ρ' = fin outs ρ'
theorem aNil : ArgOK nilX ρ [] [] ρ (fun _ ρ' => ρ') := ⟨[], rfl, rfl, rfl, fun outs h => by
  cases outs with
  | nil => exact ⟨[], rfl, fun _ => rfl⟩
  | cons _ _ => cases h⟩
theorem aOwn {f : En → ResX} {fs : En → ResA} {t : OT} {ts : List OT} {m : List Bool} {fin : List OT → En → En} (h : f ρ = .ok t ρ1) (h2 : ArgOK fs ρ1 m ts ρ2 fin) : ArgOK (consX f fs) ρ (false :: m) (t :: ts) ρ2 fin := by
  obtain ⟨as, a, b, c, d⟩ := h2
  refine ⟨.own t :: as, by unfold consX; rw [h]; dsimp only; rw [a]; rfl, by rw [maskOf, b], by rw [argTs, c]; rfl, fun outs ho => d outs (by simpa using ho)⟩
def finC (s : Nat) (back : OT → OT) (fin : List OT → En → En) : List OT → En → En
  | o :: outs, ρ' => fin outs (ρ'.set s (some (back o)))
  | [], ρ' => ρ'
theorem aLend {s : Nat} {fp : En → Res (List Nat)} {fs : En → ResA} {o u : OT} {back : OT → OT} {ts : List OT} {m : List Bool} {fin : List OT → En → En} (hs : ρ[s]? = some (some o)) (hp : PathOK ρ o fp u back) (h2 : ArgOK fs (ρ.set s none) m ts ρ2 fin) :
    ArgOK (lendX s fp fs) ρ (true :: m) (u :: ts) ρ2 (finC s back fin) := by
  obtain ⟨as, a, b, c, d⟩ := h2
  obtain ⟨p, p1, p2, p3⟩ := hp
  refine ⟨.lent s o p :: as, by unfold lendX; rw [p1]; dsimp only; rw [hs]; dsimp only; rw [p2]; dsimp only; rw [a]; rfl, by rw [maskOf, b], by rw [argTs, c, argT, p2]; rfl, fun outs ho => ?_⟩
  cases outs with
  | nil => simp at ho
  | cons t outs =>
    obtain ⟨l, e, k⟩ := d outs (by simpa using ho)
    refine ⟨(s, o.put p t) :: l, by rw [lents, e]; rfl, fun ρ' => ?_⟩
    rw [setAll, finC, k, p3]
theorem callG_ok {m : List Bool} {F : List OT → ResG} {fs : En → ResA} {ts outs : List OT} {fin : List OT → En → En} {r : OT} (h : ArgOK fs ρ m ts ρ2 fin) (hF : F ts = .ok r outs) (hl : outs.length = m.count true) : callG m F fs ρ = .ok r (fin outs ρ2) := by
  obtain ⟨as, a, b, c, d⟩ := h
  obtain ⟨l, e, k⟩ := d outs hl
  unfold callG
  rw [a, callA, if_pos b, c]
  dsimp only
  rw [hF, backG, e]
  dsimp only
  rw [k]
theorem callG_ex {m : List Bool} {F : List OT → ResG} {fs : En → ResA} {ts outs : List OT} {fin : List OT → En → En} {x : Exn} (h : ArgOK fs ρ m ts ρ2 fin) (hF : F ts = .ex x outs) (hl : outs.length = m.count true) : callG m F fs ρ = .ex x (fin outs ρ2) := by
  obtain ⟨as, a, b, c, d⟩ := h
  obtain ⟨l, e, k⟩ := d outs hl
  unfold callG
  rw [a, callA, if_pos b, c]
  dsimp only
  rw [hF, backG, e]
  dsimp only
  rw [k]
theorem nxG_ok {F : List OT → ResG} {ts outs : List OT} {r : OT} (h : F ts = .ok r outs) : nxG F ts = .ok r outs := by unfold nxG; rw [h]
/-! what a def says -/
def SmG (w : Prop) (eo : R → OT) (es : R → List OT) (es0 : List OT) (m : Res R) (r : ResG) : Prop := match m with
  | .ok a => r = .ok (eo a) (es a)
  | .ex x => w → r = .ex x es0
  | .bad => True
structure IsG (T : Tg R) (er : R → OT → En → Prop) (m : List Bool) (es0 : List OT) : Prop where
  rt : ∀ {r o ρ}, er r o ρ → T.Q (.ok r) (.rt o ρ)
  nx : ∀ {r ρ}, er r (.d .non) ρ → T.Q (.ok r) (.nx ρ)
  X : ∀ {ρ}, outsG 0 m ρ = some es0 → T.X ρ
theorem SmG.run {w : Prop} {eo : R → OT} {es : R → List OT} {es0 : List OT} {er : R → OT → En → Prop} {mr : Res R} {a n : Nat} {m : List Bool} {F : En → Flw} {ts : List OT} (hl : ts.length = a) (hm : m.length = a) (hr : argsG n ts = ρ) (he : ∀ r o ρ', er r o ρ' → o = eo r ∧ outsG 0 m ρ' = some (es r))
    (h : ∀ T : Tg R, IsG T er m es0 → T.Q mr (F ρ)) : SmG w eo es es0 mr (runG a n m F ts) := by
  have h' := h (tgR w (fun ρ => outsG 0 m ρ = some es0) er) ⟨fun z => tgR.rt z, fun z => tgR.nx z, fun z => z⟩
  unfold runG
  rw [if_pos ⟨hl, hm⟩, hr]
  cases mr with
  | bad => exact trivial
  | ex x =>
    intro hw
    obtain ⟨ρ', e, hx⟩ := h' hw
    rw [e, finG, hx]
  | ok r =>
    obtain ⟨ρ', h' | ⟨o, e, hx⟩⟩ := h'
    · obtain ⟨e, hx⟩ := h'
      obtain ⟨e1, e2⟩ := he r _ ρ' hx
      rw [e, finG, e2]
      show ResG.ok _ _ = _
      rw [e1]
    · obtain ⟨e1, e2⟩ := he r _ ρ' hx
      rw [e, finG, e2]
      show ResG.ok _ _ = _
      rw [e1]
/-- a hoisted computation that changes something -/
def Smx (m : Res α) (r : ResX) (eo : α → OT) (ρe : α → En) : Prop := ∀ a, m = .ok a → r = .ok (eo a) (ρe a)
theorem Smx.callG {m : List Bool} {F : List OT → ResG} {fs : En → ResA} {ts : List OT} {fin : List OT → En → En} {eo : R → OT} {es : R → List OT} {es0 : List OT} {w : Prop} {mr : Res R} (h : ArgOK fs ρ m ts ρ2 fin) (hF : SmG w eo es es0 mr (F ts)) (hl : ∀ a, (es a).length = m.count true) : Smx mr (FL.callG m F fs ρ) eo (fun a => fin (es a) ρ2) := fun a e => by
  subst e
  exact callG_ok h hF (hl a)
theorem SmG.nx {F : List OT → ResG} {ts : List OT} {eo : R → OT} {es : R → List OT} {es0 : List OT} {w : Prop} {mr : Res R} (hF : SmG w eo es es0 mr (F ts)) : SmG False eo es es0 mr (nxG F ts) := by
  cases mr with
  | ok a => exact nxG_ok hF
  | ex x => exact fun z => z.elim
  | bad => exact trivial
variable {T : Tg β} {m : Res β} {F A : En → Flw} {i : Nat} {f : En → ResX} {t : OT}
theorem Tg.nbX {m1 : Res α} {r1 : ResX} {eo : α → OT} {ρe : α → En} {K : α → Res β} {fl : Flw} (h : Smx m1 r1 eo ρe) (k : ∀ a, r1 = .ok (eo a) (ρe a) → T.Q (K a) fl) : T.Q (FL.nb m1 K) fl := by
  cases m1 with
  | ok a => exact k a (h a rfl)
  | ex x => exact T.bad _
  | bad => exact T.bad _
theorem Tg.sretX (h : f ρ = .ok t ρ1) (q : T.Q m (.rt t ρ1)) : T.Q m (seqF (FL.retX f) F ρ) := by
  have e : FL.retX f ρ = .rt t ρ1 := by unfold FL.retX; rw [h]; rfl
  unfold seqF; rw [e]; exact q
theorem Tg.drpX (h : f ρ = .ok t ρ1) (k : T.Q m (F ρ1)) : T.Q m (seqF (FL.drpX f) F ρ) := by
  have e : FL.drpX f ρ = .nx ρ1 := by unfold FL.drpX; rw [h]; rfl
  unfold seqF; rw [e]; exact k
theorem Tg.asgX {d : D} (h : f ρ = .ok t ρ1) (z : FL.fz t = d) (k : T.Q m (F (ρ1.set i (some (.d d))))) : T.Q m (seqF (FL.asgX i f) F ρ) := by
  have e : FL.asgX i f ρ = .nx (ρ1.set i (some (.d d))) := by unfold FL.asgX; rw [h, ← z]; rfl
  unfold seqF; rw [e]; exact k
theorem Tg.asgXO (h : f ρ = .ok t ρ1) (k : T.Q m (F (ρ1.set i (some t)))) : T.Q m (seqF (FL.asgXO i f) F ρ) := by
  have e : FL.asgXO i f ρ = .nx (ρ1.set i (some t)) := by unfold FL.asgXO; rw [h]; rfl
  unfold seqF; rw [e]; exact k
theorem Tg.unX {g : OT → En → Option En} {ρ' : En} (h : f ρ = .ok t ρ1) (hg : g t ρ1 = some ρ') (k : T.Q m (F ρ')) : T.Q m (seqF (FL.unX g f) F ρ) := by
  have e : FL.unX g f ρ = .nx ρ' := by unfold FL.unX; rw [h]; simp only [bindX, hg]
  unfold seqF; rw [e]; exact k
theorem Tg.tgX {g : D → En → Option En} {d : D} {ρ' : En} (h : f ρ = .ok t ρ1) (z : FL.fz t = d) (hg : g d ρ1 = some ρ') (k : T.Q m (F ρ')) : T.Q m (seqF (FL.tgX g f) F ρ) := by
  have e : FL.tgX g f ρ = .nx ρ' := by unfold FL.tgX; rw [h]; simp only [bindX, z, hg]
  unfold seqF; rw [e]; exact k
theorem Tg.putX {s : Nat} {fp : En → Res (List Nat)} {fi : En → Res D} {o u u' : OT} {d : D} {back : OT → OT} (h : f ρ = .ok t ρ1) (hs : ρ1[s]? = some (some o)) (hp : PathOK ρ1 o fp u back) (hi : fi ρ1 = .ok d) (hu : putT u d t = some u') (k : T.Q m (F (ρ1.set s (some (back u'))))) : T.Q m (seqF (FL.putX s fp fi f) F ρ) := by
  obtain ⟨p, p1, p2, p3⟩ := hp
  have e : FL.putX s fp fi f ρ = .nx (ρ1.set s (some (back u'))) := by
    unfold FL.putX
    rw [h]
    show bindF (fp ρ1) ρ1 _ = _
    rw [p1, bindF_ok, hs]
    dsimp only
    rw [p2]
    dsimp only
    rw [hi, bindF_ok, hu, ← p3]
  unfold seqF; rw [e]; exact k
/-! displays, operators -/
theorem disX_ok {g : List OT → Option OT} {fs : En → ResA} {ts : List OT} (h : OwnOK fs ρ ts ρ2) (hg : g ts = some t) : disX g fs ρ = .ok t ρ2 := by
  obtain ⟨as, a, b⟩ := h
  unfold disX
  rw [a, mkX, b]
  dsimp only
  rw [hg]
theorem tupO_ok {ts : List OT} (h : ts.length ≤ 16777216 := by simp) : tupO ts = some (.tup ts) := if_pos h
theorem lstO_ok {ts : List OT} (h : ts.length ≤ 16777216 := by simp) : lstO ts = some (.lst ts) := if_pos h
theorem op2Y_ok {g : D → D → Option D} {fa fb : En → ResX} {u : OT} {d : D} (h : fa ρ = .ok t ρ1) (h2 : fb ρ1 = .ok u ρ2) (hg : g (fz t) (fz u) = some d) : op2Y g fa fb ρ = .ok (.d d) ρ2 := by
  unfold op2Y
  rw [h]; dsimp only
  rw [h2]; dsimp only
  rw [hg]
theorem calY_ok {g : List D → Option D} {fs : En → ResA} {ts : List OT} {d : D} (h : OwnOK fs ρ ts ρ2) (hg : g (fzs ts) = some d) : calY g fs ρ = .ok (.d d) ρ2 := by
  obtain ⟨as, a, b⟩ := h
  unfold calY
  rw [a, calX, b]
  dsimp only
  rw [hg]
theorem callD_ok {g : List D → Res OT} {fs : En → ResA} {ts : List OT} (h : OwnOK fs ρ ts ρ2) (hg : g (fzs ts) = .ok t) : callD g fs ρ = .ok t ρ2 := by
  obtain ⟨as, a, b⟩ := h
  unfold callD
  rw [a, callY, b]
  dsimp only
  rw [hg]
theorem mapX_ok {g : D → En → Res D} {d : D} (h : f ρ = .ok t ρ1) (hg : g (fz t) ρ1 = .ok d) : mapX f g ρ = .ok (.d d) ρ1 := by
  unfold mapX
  rw [h]; dsimp only
  rw [hg]
theorem op2X_ok {g : D → D → Option D} {fb : En → Res D} {x y z : D} (h : fb ρ = .ok y) (hg : g x y = some z) : op2X g fb x ρ = .ok z := by
  unfold op2X
  rw [h, Res.bind_ok, hg]; rfl
theorem Smx.dis {g : List OT → Option OT} {fs : En → ResA} {ts : List OT} {eo : α → OT} {mr : Res α} (h : OwnOK fs ρ ts ρ2) (hg : ∀ a, mr = .ok a → g ts = some (eo a)) : Smx mr (disX g fs ρ) eo (fun _ => ρ2) := fun a e => disX_ok h (hg a e)
theorem Smx.op2 {g : D → D → Option D} {fa fb : En → ResX} {u : OT} {e : α → D} {mr : Res α} (h : fa ρ = .ok t ρ1) (h2 : fb ρ1 = .ok u ρ2) (hg : ∀ a, mr = .ok a → g (fz t) (fz u) = some (e a)) : Smx mr (op2Y g fa fb ρ) (oD e) (fun _ => ρ2) := fun a q => op2Y_ok h h2 (hg a q)
theorem Smx.map {g : D → En → Res D} {e : α → D} {mr : Res α} (h : f ρ = .ok t ρ1) (hg : ∀ a, mr = .ok a → g (fz t) ρ1 = .ok (e a)) : Smx mr (mapX f g ρ) (oD e) (fun _ => ρ1) := fun a q => mapX_ok h (hg a q)
theorem mapX_z {g : D → En → Res D} {x d : D} (h : f ρ = .ok t ρ1) (z : fz t = x) (hg : g x ρ1 = .ok d) : mapX f g ρ = .ok (.d d) ρ1 := mapX_ok h (by rw [z]; exact hg)
theorem Smx.mapz {g : D → En → Res D} {x : D} {e : α → D} {mr : Res α} (h : f ρ = .ok t ρ1) (z : fz t = x) (hg : ∀ a, mr = .ok a → g x ρ1 = .ok (e a)) : Smx mr (mapX f g ρ) (oD e) (fun _ => ρ1) := fun a q => mapX_z h z (hg a q)
theorem op2Y_z {g : D → D → Option D} {fa fb : En → ResX} {u : OT} {x y d : D} (h : fa ρ = .ok t ρ1) (z : fz t = x) (h2 : fb ρ1 = .ok u ρ2) (z2 : fz u = y) (hg : g x y = some d) : op2Y g fa fb ρ = .ok (.d d) ρ2 := op2Y_ok h h2 (by rw [z, z2]; exact hg)
theorem Smx.op2z {g : D → D → Option D} {fa fb : En → ResX} {u : OT} {x y : D} {e : α → D} {mr : Res α} (h : fa ρ = .ok t ρ1) (z : fz t = x) (h2 : fb ρ1 = .ok u ρ2) (z2 : fz u = y) (hg : ∀ a, mr = .ok a → g x y = some (e a)) : Smx mr (op2Y g fa fb ρ) (oD e) (fun _ => ρ2) := fun a q => op2Y_z h z h2 z2 (hg a q)
theorem Smx.cv {mr : Res α} {r : ResX} {eo eo' : α → OT} {ρe ρe' : α → En} (h : Smx mr r eo ρe) (h1 : ∀ a, eo a = eo' a) (h2 : ∀ a, ρe a = ρe' a) : Smx mr r eo' ρe' := fun a q => by rw [← h1, ← h2]; exact h a q
theorem xok_cv {r : ResX} {t : OT} (h : r = .ok t ρ1) (e : ρ1 = ρ2) : r = .ok t ρ2 := by rw [h, e]
/-! methods -/
theorem own_mask : ∀ {as : List ArgT} {ts : List OT}, ownTs as = some ts → (maskOf as).all (fun b => !b) = true ∧ argTs as = some ts ∧ lents as [] = some []
  | [], ts, h => by cases h; exact ⟨rfl, rfl, rfl⟩
  | .own t :: as, ts, h => by
    obtain ⟨ts', e, rfl⟩ := Option.map_eq_some_iff.mp h
    obtain ⟨a, b, c⟩ := own_mask e
    exact ⟨by rw [maskOf]; simpa using a, by rw [argTs, b]; rfl, by rw [lents]; exact c⟩
  | .lent _ _ _ :: _, _, h => nomatch h
theorem mtT_ok {T : String} {s : Nat} {M : OT → List OT → Option (OT × OT)} {fp : En → Res (List Nat)} {fs : En → ResA} {o u r u' : OT} {back : OT → OT} {ts : List OT} (hs : ρ[s]? = some (some o)) (hp : PathOK ρ o fp u back) (ht : tyO T u = true) (ha : OwnOK fs (ρ.set s none) ts ρ2) (hM : M u ts = some (r, u')) : mtT T s M fp fs ρ = .ok r (ρ2.set s (some (back u'))) := by
  obtain ⟨p, p1, p2, p3⟩ := hp
  obtain ⟨as, a, b⟩ := ha
  obtain ⟨c1, c2, c3⟩ := own_mask b
  unfold mtT
  rw [p1]
  dsimp only
  rw [hs]
  dsimp only
  rw [p2]
  dsimp only
  rw [if_pos ht, a, tailX, mtB]
  rw [if_pos (show (maskOf (.lent s o p :: as)).tail.all (fun b => !b) = true from c1), callA, if_pos rfl]
  rw [show argTs (.lent s o p :: as) = some (u :: ts) by rw [argTs, argT, p2, c2]; rfl]
  dsimp only
  rw [methG, hM, backG]
  rw [show lents (.lent s o p :: as) [u'] = some [(s, o.put p u')] by rw [lents, c3]; rfl]
  dsimp only
  rw [setAll, setAll, p3]
theorem Smx.mt {T : String} {s : Nat} {M : OT → List OT → Option (OT × OT)} {fp : En → Res (List Nat)} {fs : En → ResA} {o u : OT} {back : OT → OT} {ts : List OT} {eo : α → OT} {u' : α → OT} {mr : Res α} (hs : ρ[s]? = some (some o)) (hp : PathOK ρ o fp u back) (ht : tyO T u = true) (ha : OwnOK fs (ρ.set s none) ts ρ2) (hM : ∀ a, mr = .ok a → M u ts = some (eo a, u' a)) :
    Smx mr (mtT T s M fp fs ρ) eo (fun a => ρ2.set s (some (back (u' a)))) := fun a q => mtT_ok hs hp ht ha (hM a q)
theorem appG_ok {eo : α → OT} {l : List α} {x : α} (l' : List α) (h : snoc l x = .ok l') : appG (oL eo l) [eo x] = some (.d .non, oL eo l') := by
  obtain ⟨h1, rfl⟩ := chk_eq h
  unfold oL appG
  dsimp only
  rw [if_pos (by rw [List.length_map]; exact h1), List.map_append]; rfl
theorem insG_ok {eo : α → OT} {l : List α} {i : Int} {x : α} (l' : List α) (h : insA l i x = .ok l') : insG (oL eo l) [.d (eI i), eo x] = some (.d .non, oL eo l') := by
  obtain ⟨h1, rfl⟩ := chk_eq h
  unfold oL insG
  dsimp only
  rw [if_pos (by rw [List.length_map]; exact h1), List.map_append, List.map_append, List.map_take, List.map_drop]; rfl
/-- x.pop() -/
def popL (l : List α) : Res (α × List α) := match l.getLast? with
  | some x => .ok (x, l.dropLast)
  | none => .bad
theorem popL_ok {l : List α} {x : α} : popL (l ++ [x]) = .ok (x, l) := by unfold popL; simp
theorem popG_ok {eo : α → OT} {l : List α} (q : α × List α) (h : popL l = .ok q) : popG (oL eo l) [] = some (eo q.1, oL eo q.2) := by
  unfold popL at h
  cases e : l.getLast? with
  | none => rw [e] at h; cases h
  | some x =>
    rw [e] at h; cases h
    unfold oL popG
    dsimp only
    rw [List.getLast?_map, e, List.map_dropLast]; rfl
def popI (l : List α) (i : Int) : Res (α × List α) := match ixN l.length i with
  | some k => match l[k]? with
    | some x => chk (-(2 ^ 63) ≤ i ∧ i < 2 ^ 63) (x, l.take k ++ l.drop (k + 1))
    | none => .bad
  | none => .bad
theorem popAtG_ok {eo : α → OT} {l : List α} {i : Int} (q : α × List α) (h : popI l i = .ok q) : popAtG (oL eo l) [.d (eI i)] = some (eo q.1, oL eo q.2) := by
  unfold popI at h
  cases e : ixN l.length i with
  | none => rw [e] at h; cases h
  | some k =>
    rw [e] at h
    dsimp only at h
    cases e2 : l[k]? with
    | none => rw [e2] at h; cases h
    | some x =>
      rw [e2] at h
      obtain ⟨h1, rfl⟩ := chk_eq h
      show (if _ then _ else _) = _
      rw [if_pos h1, List.length_map, e]
      show ((l.map eo)[k]?).map _ = _
      rw [List.getElem?_map, e2, ← List.map_take, ← List.map_drop, ← List.map_append]; rfl
theorem putTL {eo : α → OT} {l : List α} {i : Int} {x : α} (l' : List α) (h : setI l i x = .ok l') : putT (oL eo l) (eI i) (eo x) = some (oL eo l') := by
  obtain ⟨j, hj, rfl⟩ := setI_some h
  show (ixN (l.map eo).length i).map _ = _
  rw [List.length_map, hj]
  show some (OT.lst ((l.map eo).set j (eo x))) = some (.lst ((l.set j x).map eo))
  rw [List.map_set]
/-! dict displays -/
theorem nilPE : nilP ρ = .ok ([], []) := rfl
theorem consPE {fk fv : En → Res D} {fr : En → Res (List D × List D)} {k v : D} {ks xs : List D} (hk : fk ρ = .ok k) (hv : fv ρ = .ok v) (hr : fr ρ = .ok (ks, xs)) : consP fk fv fr ρ = .ok (k :: ks, v :: xs) := by
  unfold consP; rw [hk, Res.bind_ok, hv, Res.bind_ok, hr]; rfl
theorem dispE {fr : En → Res (List D × List D)} {q : List D × List D} {o : OT} (h : fr ρ = .ok q) (hd : dispO q = some o) : disp fr ρ = .ok o := by
  unfold disp; rw [h, Res.bind_ok, hd]; rfl
end
end FL
/-! Dicts, typed: walked, compared, looked up. -/
namespace FL
open PySem PySem.Spec PyProof.Rows L2
section
variable {α β γ σ R : Type} {ρ : En}
/-! ### walked, listed -/
def keysS (l : List (Str × α)) : Res (List Str) := chk (l.length ≤ 16777216 ∧ (l.map (·.1)).all okS = true) (l.map (·.1))
def keysI (l : List (Int × α)) : Res (List Int) := chk (l.length ≤ 16777216) (l.map (·.1))
theorem keysS_ok {l : List (Str × α)} (h : l.length ≤ 16777216 ∧ (l.map (·.1)).all okS = true) : keysS l = .ok (l.map (·.1)) := chk_ok h
theorem keysI_ok {l : List (Int × α)} (h : l.length ≤ 16777216) : keysI l = .ok (l.map (·.1)) := chk_ok h
theorem itK_S {e : α → D} {l : List (Str × α)} {x : List Str} (h : keysS l = .ok x) : itK (eKS e l) = some (x.map eS) := by
  obtain ⟨⟨h1, h2⟩, rfl⟩ := chk_eq h
  unfold eKS itK
  dsimp only
  rw [if_pos]
  · rw [List.map_map, List.map_map]; rfl
  · rw [Bool.and_eq_true, decide_eq_true_eq, List.length_map]
    refine ⟨h1, ?_⟩
    rw [List.all_map] at h2 ⊢
    exact h2
theorem itK_I {e : α → D} {l : List (Int × α)} {x : List Int} (h : keysI l = .ok x) : itK (eKI e l) = some (x.map eI) := by
  obtain ⟨h1, rfl⟩ := chk_eq h
  unfold eKI itK
  dsimp only
  rw [if_pos]
  · rw [List.map_map, List.map_map]; rfl
  · rw [Bool.and_eq_true, decide_eq_true_eq, List.length_map, List.all_map]
    exact ⟨h1, List.all_eq_true.mpr fun _ _ => rfl⟩
theorem Sm.it1 {g : D → Option (List D)} {f : En → Res D} {d : D} {e : α → List D} {m : Res α} (h : f ρ = .ok d) (hg : ∀ a, m = .ok a → g d = some (e a)) : Sm False e m (FL.it1 g f ρ) := by
  cases m with
  | ok a =>
    unfold FL.it1
    rw [h, Res.bind_ok, hg a rfl]; rfl
  | ex x => exact fun z => z.elim
  | bad => exact trivial
theorem liKS {e : α → D} {l : List (Str × α)} (x : List Str) (h : keysS l = .ok x) : listK [eKS e l] = some (oL (oD eS) x) := by
  have h0 := itK_S (e := e) h
  unfold eKS itK at h0
  unfold eKS listK
  dsimp only at h0 ⊢
  split at h0
  · rename_i hc
    rw [if_pos hc, Option.some.inj h0, List.map_map]; rfl
  · cases h0
theorem liKI {e : α → D} {l : List (Int × α)} (x : List Int) (h : keysI l = .ok x) : listK [eKI e l] = some (oL (oD eI) x) := by
  have h0 := itK_I (e := e) h
  unfold eKI itK at h0
  unfold eKI listK
  dsimp only at h0 ⊢
  split at h0
  · rename_i hc
    rw [if_pos hc, Option.some.inj h0, List.map_map]; rfl
  · cases h0
variable {T : Tg β} {A F : En → Flw}
theorem forKF_of {f : En → Res D} {g : D → En → Option En} {ds : List D} (hi : it1 itK f ρ = .ok ds) : forKF f g A ρ = noX (forL g A ds ρ) := by
  unfold forKF
  rw [hi]; rfl
theorem Tg.foK {N : σ → En → Prop} {e : α → D} {g : D → En → Option En} {f : En → Res D} {xs : List α} {s0 : σ} {body : α → σ → Res σ} {K : σ → Res β} (hi : FL.it1 itK f ρ = .ok (xs.map e)) (h0 : N s0 ρ)
    (hb : ∀ T' : Tg σ, IsP T' (fun _ => True) N → ∀ a s ρ, N s ρ → ∃ ρ1, g (e a) ρ = some ρ1 ∧ T'.Q (body a s) (A ρ1)) (k : ∀ s ρ', N s ρ' → T.Q (K s) (F ρ')) : T.Q (FL.nb (FL.fo body xs s0) K) (seqF (forKF f g A) F ρ) := by
  replace hb := hb (tgP False (fun _ => True) N) tgP.is
  have hj := fo_sim hb xs s0 ρ h0
  cases e : FL.fo body xs s0 with
  | ok s =>
    rw [e] at hj
    obtain ⟨ρ', e2, n⟩ := hj
    rw [nb_ok, seq_nx ((forKF_of hi).trans (by rw [e2]; rfl)) rfl]; exact k s ρ' n
  | ex x => exact T.bad _
  | bad => exact T.bad _
theorem Tg.lpK {N : σ → En → Prop} {er : R → OT → En → Prop} {e : α → D} {g : D → En → Option En} {f : En → Res D} {xs : List α} {s0 : σ} {body : α → σ → Res (Fl σ R)} {K : σ → Res β} {L : R → Res β} (hi : FL.it1 itK f ρ = .ok (xs.map e)) (h0 : N s0 ρ)
    (hb : ∀ T' : Tg (Fl σ R), IsB T' (fun _ => True) er N → ∀ a s ρ, N s ρ → ∃ ρ1, g (e a) ρ = some ρ1 ∧ T'.Q (body a s) (A ρ1)) (q : ∀ r o ρ', er r o ρ' → T.Q (L r) (.rt o ρ')) (k : ∀ s ρ', N s ρ' → T.Q (K s) (F ρ')) : T.Q (FL.nb (FL.lp body xs s0) fun o => FL.fin o K L) (seqF (forKF f g A) F ρ) := by
  replace hb := hb (tgB False (fun _ => True) er N) tgB.is
  have hj := lp_sim hb xs s0 ρ h0
  cases e : FL.lp body xs s0 with
  | ok o =>
    rw [e] at hj
    rw [nb_ok]
    cases o with
    | nx s =>
      obtain ⟨ρ', e2, n⟩ := hj
      rw [seq_nx ((forKF_of hi).trans (by rw [e2]; rfl)) rfl]; exact k s ρ' n
    | bk s =>
      obtain ⟨ρ', e2, n⟩ := hj
      rw [seq_nx ((forKF_of hi).trans (by rw [e2]; rfl)) rfl]; exact k s ρ' n
    | rt r =>
      obtain ⟨o, ρ', e2, n⟩ := hj
      have : seqF (forKF f g A) F ρ = .rt o ρ' := by
        unfold seqF
        rw [forKF_of hi, e2]; rfl
      rw [this]
      exact q r o ρ' n
  | ex x => exact T.bad _
  | bad => exact T.bad _
/-! ### equality -/
mutual
theorem plain_mono : ∀ {n : Nat} {d : D}, plain n d = true → plain (n + 1) d = true
  | n, .non, _ => rfl
  | n, .bl _, _ => rfl
  | n, .int _, _ => rfl
  | n, .str _, _ => rfl
  | n, .lst xs, h => by
    unfold plain at h ⊢
    exact plains_mono h
  | n, .tup xs, h => by
    unfold plain at h ⊢
    exact plains_mono h
  | n, .dK _ _, h => by simp [plain] at h
  | n, .dT _ _, h => by simp [plain] at h
  | n, .ins _ _ _, h => by simp [plain] at h
  | n, .scr _, h => by simp [plain] at h
  | n, .exn _, h => by simp [plain] at h
theorem plains_mono : ∀ {n : Nat} {ds : List D}, plains n ds = true → plains (n + 1) ds = true
  | 0, _, h => by simp [plains] at h
  | n + 1, [], _ => rfl
  | n + 1, d :: ds, h => by
    unfold plains at h ⊢
    rw [Bool.and_eq_true] at h ⊢
    exact ⟨plain_mono h.1, plains_mono h.2⟩
end
structure DQ (k : Nat) (e : α → D) (f : α → α → Bool) : Prop where
  q : ∀ n, k ≤ n → ∀ a b, deq n (e a) (e b) = some (f a b)
def eqB [DecidableEq α] (a b : α) : Bool := decide (a = b)
theorem deq_plain {n : Nat} {x y : D} (h : plain 60 x = true) (h2 : plain 60 y = true) : deq n x y = some (eqv x y) := by
  cases n <;> (unfold deq; rw [if_pos (by rw [h, h2]; rfl)])
theorem DQ.of [DecidableEq α] {k : Nat} {e : α → D} (h : Eqn k e) (hk : k ≤ 60 := by decide) : DQ 0 e eqB := ⟨fun n _ a b => by
  rw [deq_plain (h.pl 60 a hk) (h.pl 60 b hk), h.eq]; rfl⟩
theorem DQ.pl {k : Nat} {e : α → D} {f : α → α → Bool} (h : DQ k e f) {a b : α} (p : plain 60 (e a) = true) (q : plain 60 (e b) = true) : eqv (e a) (e b) = f a b := by
  have := h.q k (Nat.le_refl _) a b
  rw [deq_plain p q] at this
  exact Option.some.inj this
def listEq (f : α → α → Bool) : List α → List α → Bool
  | [], [] => true
  | a :: l, b :: m => f a b && listEq f l m
  | _, _ => false
theorem listEq_len {f : α → α → Bool} : ∀ {l m : List α}, l.length ≠ m.length → listEq f l m = false
  | [], [], h => absurd rfl h
  | [], _ :: _, _ => rfl
  | _ :: _, [], _ => rfl
  | a :: l, b :: m, h => by
    unfold listEq
    rw [listEq_len (l := l) (m := m) (by simpa using h), Bool.and_false]
theorem listEq_refl {f : α → α → Bool} : ∀ {l : List α}, (∀ a ∈ l, f a a = true) → listEq f l l = true
  | [], _ => rfl
  | a :: l, h => by
    unfold listEq
    rw [h a List.mem_cons_self, listEq_refl fun b hb => h b (List.mem_cons_of_mem _ hb)]; rfl
theorem eqvs_listEq {e : α → D} {f : α → α → Bool} : ∀ {l m : List α}, (∀ a ∈ l, ∀ b ∈ m, eqv (e a) (e b) = f a b) → eqvs (l.map e) (m.map e) = listEq f l m
  | [], [], _ => rfl
  | [], _ :: _, _ => rfl
  | _ :: _, [], _ => rfl
  | a :: l, b :: m, h => by
    rw [List.map_cons, List.map_cons, eqvs, listEq, h a List.mem_cons_self b List.mem_cons_self, eqvs_listEq fun x hx y hy => h x (List.mem_cons_of_mem _ hx) y (List.mem_cons_of_mem _ hy)]
theorem zipB_map {e : α → D} {f : α → α → Bool} {g : D → D → Option Bool} (h : ∀ a b, g (e a) (e b) = some (f a b)) : ∀ {l m : List α}, l.length = m.length → zipB g (l.map e) (m.map e) = some (listEq f l m)
  | [], [], _ => rfl
  | a :: l, b :: m, hl => by
    rw [List.map_cons, List.map_cons, zipB, h, zipB_map h (by simpa using hl)]; rfl
theorem DQ.L {k : Nat} {e : α → D} {f : α → α → Bool} (h : DQ k e f) : DQ (k + 1) (eL e) (listEq f) := ⟨fun n hn l m => by
  obtain ⟨n, rfl⟩ : ∃ j, n = j + 1 := ⟨n - 1, by omega⟩
  by_cases p : (plain 60 (eL e l) && plain 60 (eL e m)) = true
  · rw [Bool.and_eq_true] at p
    rw [deq_plain p.1 p.2]
    unfold eL at p ⊢
    rw [eqv]
    congr 1
    obtain ⟨p1, p2⟩ := p
    unfold plain at p1 p2
    exact eqvs_listEq fun a ha b hb => h.pl (plain_mono (plains_mem p1 _ (List.mem_map_of_mem ha))) (plain_mono (plains_mem p2 _ (List.mem_map_of_mem hb)))
  · unfold deq
    rw [if_neg p]
    unfold eL
    dsimp only
    by_cases hl : l.length = m.length
    · rw [if_pos (by rw [List.length_map, List.length_map]; exact hl)]
      exact zipB_map (h.q n (by omega)) hl
    · rw [if_neg (by rw [List.length_map, List.length_map]; exact hl), listEq_len hl]⟩
def dictEq {κ : Type} [BEq κ] (f : α → α → Bool) (l m : List (κ × α)) : Bool := l.length == m.length && l.all fun p => match m.lookup p.1 with
  | some y => f p.2 y
  | none => false
theorem keyB_map {κ : Type} [DecidableEq κ] {c : κ → Key} (hc : ∀ a b, c a = c b → a = b) {e : α → D} {f : α → α → Bool} {g : D → D → Option Bool} (h : ∀ a b, g (e a) (e b) = some (f a b)) (m : List (κ × α)) : ∀ {l : List (κ × α)}, keyB g (m.map fun p => c p.1) (m.map fun p => e p.2) (l.map fun p => c p.1) (l.map fun p => e p.2) = some (l.all fun p => match m.lookup p.1 with
  | some y => f p.2 y
  | none => false)
  | [] => rfl
  | p :: l => by
    rw [List.map_cons, List.map_cons, keyB, look_map hc, List.all_cons, keyB_map hc h m]
    cases m.lookup p.1 with
    | none => rfl
    | some y =>
      simp only [Option.map_some, h]
      rfl
theorem DQ.KS {k : Nat} {e : α → D} {f : α → α → Bool} (h : DQ k e f) : DQ (k + 1) (eKS e) (dictEq f) := ⟨fun n hn l m => by
  obtain ⟨n, rfl⟩ : ∃ j, n = j + 1 := ⟨n - 1, by omega⟩
  unfold deq eKS
  rw [if_neg (by simp [plain])]
  dsimp only
  rw [keyB_map (c := Sum.inr) (fun a b q => by cases q; rfl) (h.q n (by omega)), Option.map_some, List.length_map, List.length_map]
  rfl⟩
theorem DQ.KI {k : Nat} {e : α → D} {f : α → α → Bool} (h : DQ k e f) : DQ (k + 1) (eKI e) (dictEq f) := ⟨fun n hn l m => by
  obtain ⟨n, rfl⟩ : ∃ j, n = j + 1 := ⟨n - 1, by omega⟩
  unfold deq eKI
  rw [if_neg (by simp [plain])]
  dsimp only
  rw [keyB_map (c := Sum.inl) (fun a b q => by cases q; rfl) (h.q n (by omega)), Option.map_some, List.length_map, List.length_map]
  rfl⟩
def t2Eq (f : α → α → Bool) (g : β → β → Bool) (a b : α × β) : Bool := f a.1 b.1 && g a.2 b.2
theorem DQ.T2 {k k2 : Nat} {e : α → D} {e2 : β → D} {f : α → α → Bool} {g : β → β → Bool} (h : DQ k e f) (h2 : DQ k2 e2 g) : DQ (max k k2 + 1) (eT2 e e2) (t2Eq f g) := ⟨fun n hn a b => by
  obtain ⟨n, rfl⟩ : ∃ j, n = j + 1 := ⟨n - 1, by omega⟩
  by_cases p : (plain 60 (eT2 e e2 a) && plain 60 (eT2 e e2 b)) = true
  · rw [Bool.and_eq_true] at p
    rw [deq_plain p.1 p.2]
    unfold eT2 at p ⊢
    obtain ⟨p1, p2⟩ := p
    unfold plain at p1 p2
    have q1 := h.pl (plain_mono (plains_mem p1 _ List.mem_cons_self)) (plain_mono (plains_mem p2 _ List.mem_cons_self))
    have q2 := h2.pl (plain_mono (plains_mem p1 _ (List.mem_cons_of_mem _ List.mem_cons_self))) (plain_mono (plains_mem p2 _ (List.mem_cons_of_mem _ List.mem_cons_self)))
    simp only [eqv, eqvs, q1, q2, Bool.and_true]
    rfl
  · unfold deq
    rw [if_neg p]
    unfold eT2
    dsimp only
    rw [if_pos (show [e a.1, e2 a.2].length = [e b.1, e2 b.2].length from rfl)]
    simp only [zipB, h.q n (by omega), h2.q n (by omega), Option.bind_some, Option.map_some, Bool.and_true]
    rfl⟩
theorem eqKP {k : Nat} {e : α → D} {f : α → α → Bool} (h : DQ k e f) (a b : α) (hk : k ≤ 6 := by decide) : eqK (e a) (e b) = some (.bl (f a b)) := by
  unfold eqK
  rw [h.q 6 hk]; rfl
theorem neKP {k : Nat} {e : α → D} {f : α → α → Bool} (h : DQ k e f) (a b : α) (hn : notTp (e a) = true := by rfl) (hk : k ≤ 6 := by decide) : neK (e a) (e b) = some (.bl (!f a b)) := by
  unfold neK
  rw [hn, Bool.true_or, if_pos rfl, h.q 6 hk]; rfl
/-! ### get -/
theorem dgtS {e : α → D} {f k : En → Res D} {l : List (Str × α)} {q : Str} (h : f ρ = .ok (eKS e l)) (hk : k ρ = .ok (eS q)) : dgt f k (c .non) ρ = .ok (eO e (l.lookup q)) := by
  unfold dgt
  rw [h, Res.bind_ok, if_pos (show isDk (eKS e l) = true from rfl), hk, Res.bind_ok]
  show ofO (getKd (eKS e l) (eS q) .non) = _
  unfold getKd eKS
  dsimp only
  rw [show keyOf (eS q) = some (Sum.inr q) from rfl, Option.map_some, look_map (f := Sum.inr) fun a b z => by cases z; rfl]
  cases l.lookup q <;> rfl
theorem dgtSD {e : α → D} {f k z : En → Res D} {l : List (Str × α)} {q : Str} {x : α} (h : f ρ = .ok (eKS e l)) (hk : k ρ = .ok (eS q)) (hz : z ρ = .ok (e x)) : dgt f k z ρ = .ok (e ((l.lookup q).getD x)) := by
  unfold dgt
  rw [h, Res.bind_ok, if_pos (show isDk (eKS e l) = true from rfl), hk, Res.bind_ok, hz]
  show ofO (getKd (eKS e l) (eS q) (e x)) = _
  unfold getKd eKS
  dsimp only
  rw [show keyOf (eS q) = some (Sum.inr q) from rfl, Option.map_some, look_map (f := Sum.inr) fun a b z => by cases z; rfl]
  cases l.lookup q <;> rfl
theorem dgtID {e : α → D} {f k z : En → Res D} {l : List (Int × α)} {q : Int} {x : α} (h : f ρ = .ok (eKI e l)) (hk : k ρ = .ok (eI q)) (hz : z ρ = .ok (e x)) : dgt f k z ρ = .ok (e ((l.lookup q).getD x)) := by
  unfold dgt
  rw [h, Res.bind_ok, if_pos (show isDk (eKI e l) = true from rfl), hk, Res.bind_ok, hz]
  show ofO (getKd (eKI e l) (eI q) (e x)) = _
  unfold getKd eKI
  dsimp only
  rw [show keyOf (eI q) = some (Sum.inl q) from rfl, Option.map_some, look_map (f := Sum.inl) fun a b z => by cases z; rfl]
  cases l.lookup q <;> rfl
/-! ### a pair taken out -/
def popK {κ : Type} [DecidableEq κ] (l : List (κ × α)) (k : κ) : Res (α × List (κ × α)) := match l.lookup k with
  | some x => .ok (x, l.filter fun p => !decide (p.1 = k))
  | none => .bad
theorem keyIx_map {κ : Type} [DecidableEq κ] {c : κ → Key} (hc : ∀ a b, c a = c b → a = b) {eo : α → OT} {k : κ} {x : α} : ∀ {l : List (κ × α)}, l.lookup k = some x → ∃ j, keyIx (l.map fun p => c p.1) (c k) = some j ∧ (l.map fun p => eo p.2)[j]? = some (eo x)
  | [], h => by simp at h
  | p :: l, h => by
    obtain ⟨q, y⟩ := p
    rw [List.lookup_cons] at h
    rw [List.map_cons, keyIx]
    by_cases e : k = q
    · subst e
      rw [beq_self_eq_true] at h
      cases h
      exact ⟨0, if_pos rfl, rfl⟩
    · rw [beq_eq_false_iff_ne.mpr e] at h
      obtain ⟨j, h1, h2⟩ := keyIx_map hc (eo := eo) h
      refine ⟨j + 1, ?_, ?_⟩
      · rw [if_neg (fun z => e (hc _ _ z).symm), h1]; rfl
      · simpa using h2
theorem kdrop_map {κ : Type} [DecidableEq κ] {c : κ → Key} (hc : ∀ a b, c a = c b → a = b) {eo : α → OT} (k : κ) : ∀ (l : List (κ × α)), kdrop (l.map fun p => c p.1) (l.map fun p => eo p.2) (c k) = ((l.filter fun p => !decide (p.1 = k)).map (fun p => c p.1), (l.filter fun p => !decide (p.1 = k)).map fun p => eo p.2)
  | [] => rfl
  | p :: l => by
    rw [List.map_cons, List.map_cons, kdrop, kdrop_map hc k l, List.filter_cons]
    by_cases e : p.1 = k
    · rw [if_pos (by rw [e]), if_neg (by simp [e])]
    · rw [if_neg (fun z => e (hc _ _ z)), if_pos (by simp [e])]
      rfl
theorem dpopS_ok {eo : α → OT} {l : List (Str × α)} {k : Str} (q : α × List (Str × α)) (h : popK l k = .ok q) : dpopG (oKS eo l) [.d (eS k)] = some (eo q.1, oKS eo q.2) := by
  unfold popK at h
  split at h
  · rename_i x e
    cases h
    obtain ⟨j, h1, h2⟩ := keyIx_map (c := Sum.inr) (fun a b z => by cases z; rfl) (eo := eo) e
    unfold oKS dpopG
    dsimp only
    rw [show keyOf (eS k) = some (Sum.inr k) from rfl, Option.bind_some, h1, Option.bind_some, h2, Option.map_some, kdrop_map (c := Sum.inr) fun a b z => by cases z; rfl]
  · cases h
theorem dpopI_ok {eo : α → OT} {l : List (Int × α)} {k : Int} (q : α × List (Int × α)) (h : popK l k = .ok q) : dpopG (oKI eo l) [.d (eI k)] = some (eo q.1, oKI eo q.2) := by
  unfold popK at h
  split at h
  · rename_i x e
    cases h
    obtain ⟨j, h1, h2⟩ := keyIx_map (c := Sum.inl) (fun a b z => by cases z; rfl) (eo := eo) e
    unfold oKI dpopG
    dsimp only
    rw [show keyOf (eI k) = some (Sum.inl k) from rfl, Option.bind_some, h1, Option.bind_some, h2, Option.map_some, kdrop_map (c := Sum.inl) fun a b z => by cases z; rfl]
  · cases h
theorem dixP {i : Nat} {e : α → D} {l : List (Str × α)} {k : Str} {fi : En → Res D} (hs : ρ[i]? = some (some (oKS (oD e) l))) (hi : fi ρ = .ok (eS k)) : Sm False e (getK l k) (dix i fi ρ) := by
  unfold getK
  cases h : l.lookup k with
  | none => exact trivial
  | some x =>
    obtain ⟨j, h1, h2⟩ := keyIx_map (c := Sum.inr) (fun a b z => by cases z; rfl) (eo := oD e) h
    unfold dix
    rw [hs]
    dsimp only
    rw [hi, Res.bind_ok]
    unfold oKS dixT
    dsimp only
    rw [show keyOf (eS k) = some (Sum.inr k) from rfl, Option.bind_some, h1, Option.bind_some, h2]
    rfl
theorem dixIP {i : Nat} {e : α → D} {l : List (Int × α)} {k : Int} {fi : En → Res D} (hs : ρ[i]? = some (some (oKI (oD e) l))) (hi : fi ρ = .ok (eI k)) : Sm False e (getK l k) (dix i fi ρ) := by
  unfold getK
  cases h : l.lookup k with
  | none => exact trivial
  | some x =>
    obtain ⟨j, h1, h2⟩ := keyIx_map (c := Sum.inl) (fun a b z => by cases z; rfl) (eo := oD e) h
    unfold dix
    rw [hs]
    dsimp only
    rw [hi, Res.bind_ok]
    unfold oKI dixT
    dsimp only
    rw [show keyOf (eI k) = some (Sum.inl k) from rfl, Option.bind_some, h1, Option.bind_some, h2]
    rfl
theorem putTS {eo : α → OT} {l : List (Str × α)} {k : Str} {x : α} (l' : List (Str × α)) (h : putK l k x = .ok l') : putT (oKS eo l) (eS k) (eo x) = some (oKS eo l') := by
  obtain ⟨hl, rfl⟩ := chk_eq h
  obtain ⟨h1, h2⟩ := kput_map (e := eo) (f := fun z : Str => (Sum.inr z : Key)) inr_inj' k x l
  unfold oKS putT
  dsimp only
  rw [show keyOf (eS k) = some (Sum.inr k) from rfl, Option.bind_some, List.length_map, if_pos hl, h1, h2]
theorem putTI {eo : α → OT} {l : List (Int × α)} {k : Int} {x : α} (l' : List (Int × α)) (h : putK l k x = .ok l') : putT (oKI eo l) (eI k) (eo x) = some (oKI eo l') := by
  obtain ⟨hl, rfl⟩ := chk_eq h
  obtain ⟨h1, h2⟩ := kput_map (e := eo) (f := fun z : Int => (Sum.inl z : Key)) inl_inj' k x l
  unfold oKI putT
  dsimp only
  rw [show keyOf (eI k) = some (Sum.inl k) from rfl, Option.bind_some, List.length_map, if_pos hl, h1, h2]
end
end FL
/-! Things of unlike kinds: kept as data, read where a kind is wanted. -/
namespace FL
open PySem PySem.Spec PyProof.Rows L2
section
variable {α β γ : Type} {ρ : En}
def eD (d : D) : D := d
def decS : D → Res Str
  | .str z => .ok z
  | _ => .bad
def decI : D → Res Int
  | .int i => .ok i
  | _ => .bad
def decs (q : D → Res α) : List D → Res (List α)
  | [] => .ok []
  | d :: ds => nb (q d) fun a => nb (decs q ds) fun l => .ok (a :: l)
def decL (q : D → Res α) : D → Res (List α)
  | .lst ds => decs q ds
  | _ => .bad
def decT2 (q : D → Res α) (q2 : D → Res β) : D → Res (α × β)
  | .tup [a, b] => nb (q a) fun x => nb (q2 b) fun y => .ok (x, y)
  | _ => .bad
def decT3 (q : D → Res α) (q2 : D → Res β) (q3 : D → Res γ) : D → Res (α × β × γ)
  | .tup [a, b, c] => nb (q a) fun x => nb (q2 b) fun y => nb (q3 c) fun z => .ok (x, y, z)
  | _ => .bad
theorem decS_ok {d : D} {a : Str} (h : decS d = .ok a) : d = eS a := by
  unfold decS at h
  split at h
  · cases h; rfl
  · cases h
theorem decI_ok {d : D} {a : Int} (h : decI d = .ok a) : d = eI a := by
  unfold decI at h
  split at h
  · cases h; rfl
  · cases h
theorem decs_ok {q : D → Res α} {e : α → D} (hq : ∀ {d a}, q d = .ok a → d = e a) : ∀ {ds : List D} {l : List α}, decs q ds = .ok l → ds = l.map e
  | [], l, h => by cases h; rfl
  | d :: ds, l, h => by
    unfold decs at h
    obtain ⟨a, h1, h2⟩ := nb_eq_ok h
    obtain ⟨m, h3, h4⟩ := nb_eq_ok h2
    cases h4
    rw [List.map_cons, ← hq h1, ← decs_ok hq h3]
theorem decL_ok {q : D → Res α} {e : α → D} (hq : ∀ {d a}, q d = .ok a → d = e a) {d : D} {l : List α} (h : decL q d = .ok l) : d = eL e l := by
  unfold decL at h
  split at h
  · rw [decs_ok hq h]; rfl
  · cases h
theorem decT2_ok {q : D → Res α} {q2 : D → Res β} {e : α → D} {e2 : β → D} (hq : ∀ {d a}, q d = .ok a → d = e a) (hq2 : ∀ {d a}, q2 d = .ok a → d = e2 a) {d : D} {p : α × β} (h : decT2 q q2 d = .ok p) : d = eT2 e e2 p := by
  unfold decT2 at h
  split at h
  · obtain ⟨a, h1, h2⟩ := nb_eq_ok h
    obtain ⟨b, h3, h4⟩ := nb_eq_ok h2
    cases h4
    rw [hq h1, hq2 h3]; rfl
  · cases h
theorem decT3_ok {q : D → Res α} {q2 : D → Res β} {q3 : D → Res γ} {e : α → D} {e2 : β → D} {e3 : γ → D} (hq : ∀ {d a}, q d = .ok a → d = e a) (hq2 : ∀ {d a}, q2 d = .ok a → d = e2 a) (hq3 : ∀ {d a}, q3 d = .ok a → d = e3 a) {d : D} {p : α × β × γ} (h : decT3 q q2 q3 d = .ok p) : d = eT3 e e2 e3 p := by
  unfold decT3 at h
  split at h
  · obtain ⟨a, h1, h2⟩ := nb_eq_ok h
    obtain ⟨b, h3, h4⟩ := nb_eq_ok h2
    obtain ⟨c, h5, h6⟩ := nb_eq_ok h4
    cases h6
    rw [hq h1, hq2 h3, hq3 h5]; rfl
  · cases h
/-! what is encoded is read -/
theorem decS_eS (z : Str) : decS (eS z) = .ok z := rfl
theorem decI_eI (i : Int) : decI (eI i) = .ok i := rfl
theorem decs_map {q : D → Res α} {e : α → D} (h : ∀ a, q (e a) = .ok a) : ∀ l : List α, decs q (l.map e) = .ok l
  | [] => rfl
  | a :: l => by rw [List.map_cons, decs, h, nb_ok, decs_map h l]; rfl
theorem decL_eL {q : D → Res α} {e : α → D} (h : ∀ a, q (e a) = .ok a) (l : List α) : decL q (eL e l) = .ok l := decs_map h l
theorem decT2_eT2 {q : D → Res α} {q2 : D → Res β} {e : α → D} {e2 : β → D} (h : ∀ a, q (e a) = .ok a) (h2 : ∀ a, q2 (e2 a) = .ok a) (p : α × β) : decT2 q q2 (eT2 e e2 p) = .ok p := by
  show nb (q (e p.1)) _ = _
  rw [h, nb_ok, h2, nb_ok]
theorem decT3_eT3 {q : D → Res α} {q2 : D → Res β} {q3 : D → Res γ} {e : α → D} {e2 : β → D} {e3 : γ → D} (h : ∀ a, q (e a) = .ok a) (h2 : ∀ a, q2 (e2 a) = .ok a) (h3 : ∀ a, q3 (e3 a) = .ok a) (p : α × β × γ) : decT3 q q2 q3 (eT3 e e2 e3 p) = .ok p := by
  show nb (q (e p.1)) _ = _
  rw [h, nb_ok, h2, nb_ok, h3, nb_ok]
/-! what an operation over data gives -/
def rb : Option D → Res Bool
  | some (.bl b) => .ok b
  | _ => .bad
def ri : Option D → Res Int
  | some (.int i) => .ok i
  | _ => .bad
def rdD : Option D → Res D
  | some d => .ok d
  | none => .bad
theorem rb_some {o : Option D} {b : Bool} (h : rb o = .ok b) : o = some (eB b) := by
  unfold rb at h
  split at h
  · cases h; rfl
  · cases h
theorem ri_some {o : Option D} {b : Int} (h : ri o = .ok b) : o = some (eI b) := by
  unfold ri at h
  split at h
  · cases h; rfl
  · cases h
theorem rdD_some {o : Option D} {d : D} (h : rdD o = .ok d) : o = some (eD d) := by
  unfold rdD at h
  split at h
  · cases h; rfl
  · cases h
theorem Sm.dec {e : α → D} {m : Res α} {f : En → Res D} {d : D} (h : f ρ = .ok d) (hm : ∀ a, m = .ok a → d = e a) : Sm False e m (f ρ) := by
  cases m with
  | ok a =>
    show f ρ = _
    rw [h, hm a rfl]
  | ex x => exact fun z => z.elim
  | bad => exact trivial
/-- a row, copied -/
def lsD : D → Res D
  | .lst ds => .ok (.lst ds)
  | .tup ds => .ok (.lst ds)
  | _ => .bad
theorem Sz.lsD {d : D} {fs : En → Res (List D)} (h : fs ρ = .ok [d]) : Sz False eD (FL.lsD d) (FL.cal listO fs ρ) := by
  have hz : ∀ ds : List D, fz (.lst (ds.map OT.d)) = .lst ds := fun ds => by
    rw [FL.fz, fzs_eq, List.map_map]
    congr 1
    exact List.map_id _
  unfold FL.cal
  rw [h]
  cases d <;> first | exact trivial | skip
  · exact ⟨_, rfl, hz _⟩
  · exact ⟨_, rfl, hz _⟩
/-! dict(..) of pairs -/
def dictA {κ : Type} [DecidableEq κ] (l : List (κ × α)) : List (κ × α) := l.foldl (fun acc p => putA acc p.1 p.2) []
theorem pairsK_map {κ : Type} [DecidableEq κ] {c : κ → Key} {ek : κ → D} (hk : ∀ a, keyOf (ek a) = some (c a)) (hc : ∀ a b, c a = c b → a = b) {e : α → D} : ∀ (l acc : List (κ × α)), pairsK (l.map (eT2 ek e)) (acc.map fun p => c p.1) (acc.map fun p => e p.2) = some (((l.foldl (fun acc p => putA acc p.1 p.2) acc).map fun p => c p.1), ((l.foldl (fun acc p => putA acc p.1 p.2) acc).map fun p => e p.2))
  | [], acc => rfl
  | p :: l, acc => by
    obtain ⟨h1, h2⟩ := kput_map (f := c) hc (e := e) p.1 p.2 acc
    rw [List.map_cons]
    show ((keyOf (ek p.1)).bind fun k => pairsK (l.map (eT2 ek e)) (FL.kput _ _ k (e p.2)).1 (FL.kput _ _ k (e p.2)).2) = _
    rw [hk, Option.bind_some, h1, h2, pairsK_map hk hc l]
    rfl
theorem dicI {e : α → D} (l : List (Int × α)) : dictO [eL (eT2 eI e) l] = some (oKI (oD e) (dictA l)) := by
  have h := pairsK_map (c := fun z : Int => (Sum.inl z : Key)) (ek := eI) (fun _ => rfl) inl_inj' (e := e) l []
  unfold eL dictO
  dsimp only
  rw [show pairsK (l.map (eT2 eI e)) [] [] = _ from h, Option.map_some, List.map_map]
  rfl
theorem dicS {e : α → D} (l : List (Str × α)) : dictO [eL (eT2 eS e) l] = some (oKS (oD e) (dictA l)) := by
  have h := pairsK_map (c := fun z : Str => (Sum.inr z : Key)) (ek := eS) (fun _ => rfl) inr_inj' (e := e) l []
  unfold eL dictO
  dsimp only
  rw [show pairsK (l.map (eT2 eS e)) [] [] = _ from h, Option.map_some, List.map_map]
  rfl
variable {T : Tg β} {F : En → Flw} {i : Nat}
theorem Tg.appR {eo : α → OT} {l : List α} {x : α} {f : En → Res OT} {K : List α → Res β} (hs : ρ[i]? = some (some (oL eo l))) (h : f ρ = .ok (eo x)) (k : ∀ y, T.Q (K y) (F (ρ.set i (some (oL eo y))))) : T.Q (FL.nb (snoc l x) K) (seqF (FL.appR i f) F ρ) := by
  refine Tg.nq fun y hy => ?_
  obtain ⟨hl, rfl⟩ := chk_eq hy
  have e : FL.appR i f ρ = .nx (ρ.set i (some (oL eo (l ++ [x])))) := by
    unfold FL.appR
    rw [hs]
    unfold oL
    dsimp only
    rw [h, bindF_ok, if_pos (by rw [List.length_map]; exact hl), List.map_append]
    rfl
  rw [seq_nx e rfl]
  exact k _
theorem Tg.insR {eo : α → OT} {l : List α} {j : Int} {x : α} {g : En → Res D} {f : En → Res OT} {K : List α → Res β} (hs : ρ[i]? = some (some (oL eo l))) (hg : g ρ = .ok (eI j)) (h : f ρ = .ok (eo x)) (k : ∀ y, T.Q (K y) (F (ρ.set i (some (oL eo y))))) : T.Q (FL.nb (insA l j x) K) (seqF (FL.insR i g f) F ρ) := by
  refine Tg.nq fun y hy => ?_
  obtain ⟨hl, rfl⟩ := chk_eq hy
  have e : FL.insR i g f ρ = .nx (ρ.set i (some (oL eo (l.take j.toNat ++ ([x] ++ l.drop j.toNat))))) := by
    unfold FL.insR
    rw [hs]
    unfold oL
    dsimp only
    rw [hg, bindF_ok, h, bindF_ok]
    show (if 0 ≤ j ∧ j < 2 ^ 63 ∧ (l.map eo).length < 16777216 then _ else _) = _
    rw [if_pos ⟨hl.1, hl.2.1, by rw [List.length_map]; exact hl.2.2⟩, List.map_append, List.map_append, List.map_take, List.map_drop]
    rfl
  rw [seq_nx e rfl]
  exact k _
end
section
variable {α β γ : Type}
theorem EqnH3 [DecidableEq α] [DecidableEq β] [DecidableEq γ] {k k2 k3 : Nat} {e1 : α → D} {e2 : β → D} {e3 : γ → D} (h : Eqn k e1) (h2 : Eqn k2 e2) (h3 : Eqn k3 e3) : Eqn (max k (max k2 k3) + 1) (eH3 e1 e2 e3) := ⟨fun a b => by
  obtain ⟨a1, a2, a3⟩ := a; obtain ⟨b1, b2, b3⟩ := b
  unfold eH3; simp only [eqv, eqvs, h.eq, h2.eq, h3.eq, Bool.and_true, Prod.mk.injEq, Bool.decide_and], fun n a hn => by
  obtain ⟨n, rfl⟩ : ∃ m, n = m + 1 := ⟨n - 1, by omega⟩
  unfold eH3; simp only [plain, plains, h.pl n _ (by omega), h2.pl n _ (by omega), h3.pl n _ (by omega), Bool.and_true]⟩
end
end FL
/-! Tuples led by a word; rows unpacked; deep membership. -/
namespace FL
open PySem PySem.Spec PyProof.Rows L2
section
variable {α β γ : Type} {ρ : En}
def eW (e : α → D) (p : Str × List α) : D := .tup (.str p.1 :: p.2.map e)
theorem Str_beq (a b : Str) : (a == b) = decide (a = b) := by
  have h := EqnS.eq a b
  simpa only [eqv] using h
theorem EqnW [DecidableEq α] {k : Nat} {e : α → D} (h : Eqn k e) : Eqn (k + 1) (eW e) := ⟨fun a b => by
  obtain ⟨a1, a2⟩ := a; obtain ⟨b1, b2⟩ := b
  unfold eW
  rw [eqv, eqvs, eqvs_map h.eq]
  simp only [eqv, Prod.mk.injEq, Bool.decide_and, Str_beq], fun n a hn => by
  obtain ⟨n, rfl⟩ : ∃ m, n = m + 1 := ⟨n - 1, by omega⟩
  unfold eW
  rw [plain, plains, plains_map (fun a => h.pl n a (by omega)) a.2]
  rfl⟩
def atW (p : Str × List α) (i : Int) : Res α := if 1 ≤ i then atL p.2 (i - 1) else if i < 0 ∧ -i ≤ p.2.length then atL p.2 i else .bad
theorem atI_cons {δ : Type} {d : δ} {l : List δ} {i : Int} (h : 1 ≤ i) : L2.atI (d :: l) i = L2.atI l (i - 1) := by
  obtain ⟨k, rfl⟩ : ∃ k : Nat, i = (k : Int) + 1 := ⟨(i - 1).toNat, by omega⟩
  unfold L2.atI
  rw [show (k : Int) + 1 - 1 = (k : Int) by omega, List.length_cons]
  by_cases hk : k < l.length
  · rw [ixN_in (by omega) (by omega), ixN_in (by omega) (by omega), Option.bind_some, Option.bind_some, show ((k : Int) + 1).toNat = k + 1 by omega, List.getElem?_cons_succ, Int.toNat_natCast]
  · have e1 : ixN (l.length + 1) ((k : Int) + 1) = none := by
      unfold ixN
      rw [if_pos (by omega), if_neg (by omega)]
    have e2 : ixN l.length (k : Int) = none := by
      unfold ixN
      rw [if_pos (by omega), if_neg (by omega)]
    rw [e1, e2]; rfl
theorem atI_consN {δ : Type} {d : δ} {l : List δ} {i : Int} (h : i < 0) (h2 : -i ≤ l.length) : L2.atI (d :: l) i = L2.atI l i := by
  unfold L2.atI
  have e1 : ixN (l.length + 1) i = some ((i + (l.length : Int)).toNat + 1) := by
    unfold ixN
    rw [if_neg (by omega), if_pos (by omega)]
    congr 1
    omega
  have e2 : ixN l.length i = some (i + (l.length : Int)).toNat := by
    unfold ixN
    rw [if_neg (by omega), if_pos (by omega)]
  rw [List.length_cons, e1, e2, Option.bind_some, Option.bind_some, List.getElem?_cons_succ]
theorem ixW {e : α → D} {p : Str × List α} {i : Int} (a : α) (h : atW p i = .ok a) : ixD (eW e p) (.int i) = some (e a) := by
  unfold atW at h
  show L2.atI (D.str p.1 :: p.2.map e) i = _
  split at h
  · rename_i h1
    rw [atI_cons h1, atI_map, atL_some h]; rfl
  · split at h
    · rename_i h2
      rw [atI_consN h2.1 (by rw [List.length_map]; exact h2.2), atI_map, atL_some h]; rfl
    · cases h
theorem ixW0 {e : α → D} (p : Str × List α) : ixD (eW e p) (.int 0) = some (eS p.1) := by
  show L2.atI (D.str p.1 :: p.2.map e) 0 = _
  unfold L2.atI
  rw [ixN_in (by omega) (by rw [List.length_cons]; omega)]
  rfl
/-- p[lo:hi], lo behind the word -/
def cutW (p : Str × List α) (lo hi : Option Int) : Res (List α) := match lo, hi with
  | some i, none => if 1 ≤ i ∧ i ≤ p.2.length + 1 then .ok (p.2.drop (i.toNat - 1)) else .bad
  | _, _ => .bad
theorem slWt {e : α → D} {p : Str × List α} {lo hi : Option Int} (x : List α) (h : cutW p lo hi = .ok x) : slD (eW e p) lo hi = some (eV e x) := by
  unfold cutW at h
  split at h
  · rename_i i
    split at h
    · rename_i hi
      cases h
      obtain ⟨k, rfl⟩ : ∃ k : Nat, i = (k : Int) + 1 := ⟨(i - 1).toNat, by omega⟩
      unfold eW slD eV; dsimp only
      rw [show ((k : Int) + 1) = ((k + 1 : Nat) : Int) by omega, HT.sIx_nat, HT.sIx_none, List.length_cons, List.length_map, if_neg (by omega)]
      unfold cutL
      rw [HT.sIx_nat, HT.sIx_none, List.length_cons, List.length_map, show min (k + 1) (p.2.length + 1) = k + 1 by omega, List.drop_succ_cons, List.take_of_length_le (by rw [List.length_drop, List.length_map]; omega), show ((k + 1 : Nat) : Int).toNat - 1 = k by omega, List.map_drop]
    · cases h
  · cases h
/-- p[:hi] -/
def cutWh (p : Str × List α) (hi : Option Int) : Res (Str × List α) := match hi with
  | some i => if 1 ≤ i ∧ i ≤ p.2.length then .ok (p.1, p.2.take (i.toNat - 1)) else .bad
  | none => .bad
theorem slWh {e : α → D} {p : Str × List α} {hi : Option Int} (x : Str × List α) (h : cutWh p hi = .ok x) : slD (eW e p) none hi = some (eW e x) := by
  unfold cutWh at h
  split at h
  · rename_i i
    split at h
    · rename_i hi
      cases h
      obtain ⟨k, rfl⟩ : ∃ k : Nat, i = (k : Int) + 1 := ⟨(i - 1).toNat, by omega⟩
      unfold eW slD; dsimp only
      rw [show ((k : Int) + 1) = ((k + 1 : Nat) : Int) by omega, HT.sIx_nat, HT.sIx_none, List.length_cons, List.length_map, if_neg (by omega)]
      unfold cutL
      rw [HT.sIx_nat, HT.sIx_none, List.length_cons, List.length_map, show min (k + 1) (p.2.length + 1) = k + 1 by omega, List.drop_zero, Nat.sub_zero, List.take_succ_cons, show ((k + 1 : Nat) : Int).toNat - 1 = k by omega, List.map_take]
    · cases h
  · cases h
def catW (p : Str × List α) (l : List α) : Res (Str × List α) := chk (p.2.length + l.length < 16777216) (p.1, p.2 ++ l)
theorem caW {e : α → D} {p : Str × List α} {l : List α} (x : Str × List α) (h : catW p l = .ok x) : addD (eW e p) (eV e l) = some (eW e x) := by
  obtain ⟨hc, rfl⟩ := chk_eq h
  unfold eW eV addD; dsimp only
  rw [if_neg (by simp), if_pos (by rw [List.length_cons, List.length_map, List.length_map]; omega), List.cons_append, List.map_append]
theorem lnW {e : α → D} (p : Str × List α) : lenL [eW e p] = some (eI ((p.2.length : Int) + 1)) := by
  show some (D.int ((D.str p.1 :: p.2.map e).length : Int)) = _
  rw [List.length_cons, List.length_map]; rfl
/-! rows unpacked -/
def un2 : List α → Res (α × α)
  | [a, b] => .ok (a, b)
  | _ => .bad
def un3 : List α → Res (α × α × α)
  | [a, b, c] => .ok (a, b, c)
  | _ => .bad
theorem Sm.un2 {e : α → D} {l : List α} {f : En → Res D} (h : f ρ = .ok (eL e l)) : Sm False (eH2 e e) (FL.un2 l) (f ρ) := by
  unfold FL.un2
  split
  · exact h
  · exact trivial
theorem Sm.un3 {e : α → D} {l : List α} {f : En → Res D} (h : f ρ = .ok (eL e l)) : Sm False (eH3 e e e) (FL.un3 l) (f ρ) := by
  unfold FL.un3
  split
  · exact h
  · exact trivial
theorem Sm.un2V {e : α → D} {l : List α} {f : En → Res D} (h : f ρ = .ok (eV e l)) : Sm False (eT2 e e) (FL.un2 l) (f ρ) := by
  unfold FL.un2
  split
  · exact h
  · exact trivial
theorem Sm.un3V {e : α → D} {l : List α} {f : En → Res D} (h : f ρ = .ok (eV e l)) : Sm False (eT3 e e e) (FL.un3 l) (f ρ) := by
  unfold FL.un3
  split
  · exact h
  · exact trivial
theorem rvU {e : α → D} (l : List α) : revU (eL e l) = some (eL e l.reverse) := by
  unfold eL revU; dsimp only; rw [List.map_reverse]
theorem rvUV {e : α → D} (l : List α) : revU (eV e l) = some (eV e l.reverse) := by
  unfold eV revU; dsimp only; rw [List.map_reverse]
/-! membership -/
theorem inPK [DecidableEq α] {k : Nat} {e : α → D} (h : Eqn k e) (a : α) (l : List α) {ins : Decidable (a ∈ l)} (hk : k + 1 ≤ 64 := by decide) : inK (e a) (eL e l) = some (.bl (@decide (a ∈ l) ins)) := by
  show (if (plain 64 (e a) && plain 64 (.lst (l.map e))) = true then _ else _) = _
  rw [if_pos (by rw [h.pl 64 a (by omega), show plain 64 (.lst (l.map e)) = true from (EqnL h).pl 64 l hk]; rfl), any_map h.eq]
  congr 2
  exact decide_eq_decide.mpr Iff.rfl
theorem inPKV [DecidableEq α] {k : Nat} {e : α → D} (h : Eqn k e) (a : α) (l : List α) {ins : Decidable (a ∈ l)} (hk : k + 1 ≤ 64 := by decide) : inK (e a) (eV e l) = some (.bl (@decide (a ∈ l) ins)) := by
  show (if (plain 64 (e a) && plain 64 (.tup (l.map e))) = true then _ else _) = _
  rw [if_pos (by rw [h.pl 64 a (by omega), show plain 64 (.tup (l.map e)) = true from (EqnV h).pl 64 l hk]; rfl), any_map h.eq]
  congr 2
  exact decide_eq_decide.mpr Iff.rfl
theorem ninOfK {x y : D} {b : Bool} (h : inK x y = some (.bl b)) : ninK x y = some (.bl (!b)) := by
  unfold inK at h
  unfold ninK
  split at h
  · split at h
    · rename_i p; cases h; rw [if_pos p]
    · cases h
  · split at h
    · rename_i p; cases h; rw [if_pos p]
    · cases h
  · exact ninOf h
theorem ninOfKS {x y : D} {b : Bool} (h : inK x y = some (.bl b)) : ninK x y = some (.bl (!b)) := ninOfK h
theorem ninOfKD {x y : D} {b : Bool} (h : inK x y = some (.bl b)) : ninK x y = some (.bl (!b)) := ninOfK h
end
/-! a def that may raise, within a tuple that is handed back -/
section
variable {α β : Type} {T : Tg β} {ρ : En} {F : En → Flw}
theorem Sm.pair {e : α → D} {m1 : Res α} {f : En → Res D} {d0 : D} (h : Sm True e m1 (f ρ)) : Sm True (fun a => D.tup [d0, e a]) m1 (FL.cal mkT (FL.consA (FL.c d0) (FL.consA f FL.nilA)) ρ) := by
  unfold FL.cal FL.consA
  cases m1 with
  | ok a =>
    have h : f ρ = .ok (e a) := h
    show ((Res.ok d0).bind _).bind _ = _
    rw [Res.bind_ok]
    rw [h]
    rfl
  | ex x =>
    intro _
    have h : f ρ = .ex x := h trivial
    show ((Res.ok d0).bind _).bind _ = _
    rw [Res.bind_ok]
    rw [h]
    rfl
  | bad => exact trivial
theorem Tg.sretDS {e : α → D} {m1 : Res α} {f : En → Res D} {K : α → Res β} (h : Sm True e m1 (f ρ)) (hx : T.X ρ) (q : ∀ a, T.Q (K a) (.rt (.d (e a)) ρ)) : T.Q (m1.bind K) (seqF (FL.ret f) F ρ) := by
  cases m1 with
  | ok a => rw [seq_rt (ret_ok h)]; exact q a
  | ex x => exact T.exw x _ fun _ => ⟨ρ, seq_ex (ret_ex (h trivial)), hx⟩
  | bad => exact T.bad _
end
end FL
/-! Facts of typed computations. -/
namespace FL
open PySem PySem.Spec PyProof.Rows L2
section
variable {α β σ R : Type}
theorem rn1_nat {n : Nat} (h : n ≤ 16777216) : rn1 (n : Int) = .ok ((List.range n).map fun (i : Nat) => (i : Int)) := by
  unfold rn1
  rw [chk_ok (by omega)]
  unfold rngI
  rw [Int.toNat_natCast]
  congr 1
  exact List.map_congr_left fun i _ => by omega
theorem rn2_nat {a b : Nat} (ha : a ≤ 1000000000) (h : b ≤ 16777216) : rn2 (a : Int) (b : Int) = .ok ((List.range (b - a)).map fun (i : Nat) => ((a + i : Nat) : Int)) := by
  unfold rn2
  rw [chk_ok (by omega)]
  unfold rngI
  rw [show ((b : Int) - (a : Int)).toNat = b - a by omega]
  congr 1
  exact List.map_congr_left fun i _ => by omega
theorem rn3_down {n : Nat} (h : n ≤ 16777215) : rn3 ((n : Int) - 1) (-1) (-1) = .ok ((List.range n).map fun (i : Nat) => ((n - 1 - i : Nat) : Int)) := by
  unfold rn3
  rw [chk_ok (by omega)]
  unfold rngI
  rw [show ((n : Int) - 1 - -1).toNat = n by omega]
  congr 1
  exact List.map_congr_left fun i hi => by
    have := List.mem_range.mp hi
    omega
theorem fo_ind {body : α → σ → Res σ} (P : Nat → σ → Prop) : ∀ {xs : List α} {s : σ} (k : Nat), P k s → (∀ i x s, xs[i]? = some x → P (k + i) s → ∃ s', body x s = .ok s' ∧ P (k + i + 1) s') → ∃ s', fo body xs s = .ok s' ∧ P (k + xs.length) s'
  | [], s, k, h, _ => ⟨s, rfl, h⟩
  | x :: xs, s, k, h, hs => by
    obtain ⟨s1, h1, h2⟩ := hs 0 x s rfl h
    obtain ⟨s2, h3, h4⟩ := fo_ind P (k + 1) h2 fun i y s hy hp => by
      obtain ⟨s', a, b⟩ := hs (i + 1) y s (by simpa using hy) (by rw [show k + (i + 1) = k + 1 + i by omega]; exact hp)
      exact ⟨s', a, by rw [show k + 1 + i + 1 = k + (i + 1) + 1 by omega]; exact b⟩
    refine ⟨s2, ?_, by rw [List.length_cons, show k + (xs.length + 1) = k + 1 + xs.length by omega]; exact h4⟩
    unfold fo
    rw [h1, Res.bind_ok]; exact h3
/-- along a list, from nothing on -/
theorem fo_inv {body : α → σ → Res σ} {xs : List α} {s : σ} (P : Nat → σ → Prop) (h0 : P 0 s) (hs : ∀ i x s, xs[i]? = some x → P i s → ∃ s', body x s = .ok s' ∧ P (i + 1) s') : ∃ s', fo body xs s = .ok s' ∧ P xs.length s' := by
  obtain ⟨s', a, b⟩ := fo_ind P 0 h0 fun i x s hx hp => by
    obtain ⟨s', a, b⟩ := hs i x s hx (by rw [Nat.zero_add] at hp; exact hp)
    exact ⟨s', a, by rw [Nat.zero_add]; exact b⟩
  exact ⟨s', a, by rw [Nat.zero_add] at b; exact b⟩
/-- a loop that is a fold -/
theorem fo_fold {body : α → σ → Res σ} {f : σ → α → σ} : ∀ {xs : List α} {s : σ}, (∀ x ∈ xs, ∀ s, body x s = .ok (f s x)) → fo body xs s = .ok (xs.foldl f s)
  | [], _, _ => rfl
  | x :: xs, s, h => by
    unfold fo
    rw [h x List.mem_cons_self s, Res.bind_ok]
    exact fo_fold fun y hy => h y (List.mem_cons_of_mem _ hy)
theorem lp_inv {body : α → σ → Res (Fl σ R)} : ∀ {xs : List α} {s : σ} (P : Nat → σ → Prop), P 0 s → (∀ i x s, xs[i]? = some x → P i s → ∃ s', body x s = .ok (.nx s') ∧ P (i + 1) s') → ∃ s', lp body xs s = .ok (.nx s') ∧ P xs.length s'
  | [], s, P, h, _ => ⟨s, rfl, h⟩
  | x :: xs, s, P, h, hs => by
    obtain ⟨s1, h1, h2⟩ := hs 0 x s rfl h
    obtain ⟨s2, h3, h4⟩ := lp_inv (fun i => P (i + 1)) h2 fun i y s hy hp => hs (i + 1) y s (by simpa using hy) hp
    refine ⟨s2, ?_, h4⟩
    unfold lp
    rw [h1, Res.bind_ok]; exact h3
/-- a look at each: handed back at the first that is so -/
theorem lp_any {body : α → Unit → Res (Fl Unit R)} {p : α → Bool} {r : R} : ∀ {xs : List α}, (∀ x ∈ xs, body x () = .ok (if p x = true then .rt r else .nx ())) → lp body xs () = .ok (if xs.any p = true then .rt r else .nx ())
  | [], _ => rfl
  | x :: xs, h => by
    unfold lp
    rw [h x List.mem_cons_self, Res.bind_ok, List.any_cons]
    cases e : p x with
    | true => rfl
    | false =>
      rw [Bool.false_or]
      exact lp_any fun y hy => h y (List.mem_cons_of_mem _ hy)
theorem lp_none {body : α → Unit → Res (Fl Unit R)} {xs : List α} (h : ∀ x ∈ xs, body x () = .ok (.nx ())) : lp body xs () = .ok (.nx ()) := by
  obtain ⟨s, a, _⟩ := lp_inv (fun _ _ => True) trivial (xs := xs) (s := ()) (body := body) fun i x s hx _ => ⟨(), h x (List.mem_of_getElem? hx), trivial⟩
  exact a
theorem modI_ok {i j : Int} (h : 0 < j) : modI i j = .ok (i % j) := chk_ok h
theorem divI_ok {i j : Int} (h : 0 < j ∧ j < 1073741824) : divI i j = .ok (i / j) := chk_ok h
theorem mulI_ok {i j : Int} (h : (-(2 ^ 64) < i ∧ i < 2 ^ 64) ∨ (-(2 ^ 64) < j ∧ j < 2 ^ 64)) : mulI i j = .ok (i * j) := chk_ok h
theorem catS_ok {a b : Str} (h : a.length + b.length ≤ 16777216) : catS a b = .ok (a ++ b) := chk_ok h
theorem ite_t {p : Prop} [Decidable p] {a b : α} (h : p) : (if decide p = true then a else b) = a := if_pos (decide_eq_true h)
theorem ite_f {p : Prop} [Decidable p] {a b : α} (h : ¬p) : (if decide p = true then a else b) = b := if_neg (by rw [decide_eq_true_eq]; exact h)
end
end FL
/-! Cells of a script, seeds. -/
namespace FL
open PySem PySem.Spec PyProof.Rows L2
/-- _law_cell_at: scr, int -> int -/
noncomputable def F__law_cell_at (script_ : (List Int)) (k_ : Int) : Res Int :=
  if (decide (k_ < (script_.length : Int))) = true then
  (nb (atL script_ k_) fun (t_ : Int) =>
  .ok t_)
  else
  (.ok 0)

/-- _law_next: int -> int -/
noncomputable def F__law_next (seed_ : Int) : Res Int :=
  nb (.ok ((seed_ + 7919) % 2147483647)) fun (seed_1 : Int) =>
  nb (mulI seed_1 seed_1) fun (t_ : Int) =>
  .ok (((t_ + (48271 * seed_1)) + 12345) % 2147483629)

theorem cell_at_ok (ns : List Int) {k : Int} (hk : 0 ≤ k) : ∃ x, F__law_cell_at ns k = .ok x := by
  unfold F__law_cell_at
  by_cases h : k < (ns.length : Int)
  · rw [ite_t h, atL_in hk (List.getElem?_eq_getElem (by omega)), nb_ok]; exact ⟨_, rfl⟩
  · rw [ite_f h]; exact ⟨_, rfl⟩
theorem next_seed (s : Int) : ∃ x, F__law_next s = .ok x ∧ 0 ≤ x := by
  unfold F__law_next
  rw [nb_ok, mulI_ok (.inl (by omega)), nb_ok]
  exact ⟨_, rfl, by omega⟩
end FL
namespace FL
open PySem PySem.Spec PyProof.Rows L2
def exTab : List (Str × List Str) := [(("BadRow" : Str), [("BadRow" : Str), ("PastError" : Str)]), (("BadTree" : Str), [("BadTree" : Str), ("PastError" : Str)]), (("BadWeb" : Str), [("BadWeb" : Str), ("PastError" : Str)]), (("Clash" : Str), [("Clash" : Str), ("PastError" : Str)]), (("NoAsking" : Str), [("NoAsking" : Str), ("PastError" : Str)]), (("NoFit" : Str), [("NoFit" : Str), ("PastError" : Str)]), (("NoVersion" : Str), [("NoVersion" : Str), ("PastError" : Str)]), (("PastError" : Str), [("PastError" : Str)])]
def exT : List Str := [("BadRow" : Str), ("BadTree" : Str), ("BadWeb" : Str), ("Clash" : Str), ("NoAsking" : Str), ("NoFit" : Str), ("NoVersion" : Str), ("PastError" : Str)]
def exS (c d : Str) : Bool := match exTab.lookup c with
  | some l => l.contains d
  | none => false
/-- _law_drawn_plan: int, int, int -> dyn -/
noncomputable def F__law_drawn_plan : Nat → Int → Int → Int → Res D
  | 0, _, _, _ => .bad
  | n_ + 1, seed_, deep_, most_ =>
  nb (F__law_next seed_) fun (seed_1 : Int) =>
  if ((decide (deep_ = 0)) || (decide (((seed_1 / 7) % 3) = 0))) = true then
  (nb (modI (seed_1 / 64) most_) fun (t_1 : Int) =>
  .ok ((eT2 eS eI) (("found" : Str), t_1)))
  else
  (nb (F__law_next (seed_1 + 11)) fun (t_2 : Int) =>
  nb (F__law_drawn_plan n_ t_2 (deep_ - 1) most_) fun (good_ : D) =>
  nb (modI (seed_1 / 64) most_) fun (t_4 : Int) =>
  nb (F__law_next (seed_1 + 23)) fun (t_5 : Int) =>
  nb (F__law_drawn_plan n_ t_5 (deep_ - 1) most_) fun (t_6 : D) =>
  .ok ((eT4 eS eI eD eD) (("ask" : Str), t_4, good_, t_6)))

/-- led: dyn, list[bool] -> dyn -/
noncomputable def F_led (plan_ : D) (answers_ : (List Bool)) : Res D :=
  Res.bind (fo (fun (answer_ : Bool) (plan_1 : D) => (nb (rdD (ixD plan_1 (eI 0))) fun (t_ : D) =>
  nb (rb (eqD (eD t_) (eD (eS ("found" : Str))))) fun (t_1 : Bool) =>
  if t_1 = true then
  (.ex ⟨"NoAsking", none⟩)
  else
  (Res.bind (if answer_ = true then nb (rdD (ixD plan_1 (eI 3))) fun (plan_2 : D) =>
  .ok plan_2 else nb (rdD (ixD plan_1 (eI 2))) fun (plan_3 : D) =>
  .ok plan_3 : Res D) fun (plan_4 : D) =>
  .ok plan_4) : Res D)) answers_ plan_) fun (plan_5 : D) =>
  .ok plan_5

/-- _law_kind: exn -> str -/
noncomputable def F__law_kind (xc : Str) : Res Str :=
  if ((!true) || (!(exS xc ("PastError" : Str)))) = true then
  (.ok ("other" : Str))
  else
  (nb (.ok [(exS xc ("BadWeb" : Str)), (exS xc ("NoVersion" : Str)), (exS xc ("NoAsking" : Str))]) fun (marks_ : (List Bool)) =>
  nb (.ok [(exS xc ("BadRow" : Str)), (exS xc ("NoFit" : Str)), (exS xc ("BadTree" : Str)), (exS xc ("Clash" : Str))]) fun (others_ : (List Bool)) =>
  if ((!(decide (((marks_.count true : Nat) : Int) = 1))) || (decide (true ∈ others_))) = true then
  (.ok ("other" : Str))
  else
  (nb (idxA marks_ true) fun (t_ : Int) =>
  nb (atL [("web" : Str), ("version" : Str), ("asking" : Str)] t_) fun (t_1 : Str) =>
  .ok t_1))

/-- _law_tried: dyn, list[bool] -> (str,dyn?) -/
noncomputable def F__law_tried (told_ : D) (answers_ : (List Bool)) : Res (Str × (Option D)) :=
  Res.bind (trF (fun (s_ : Unit) => grd exT fun (x_ : Exn) => (if exS x_.c ("PastError" : Str) = true then nox (nb (F__law_kind x_.c) fun (t_1 : Str) =>
  .ok (.rt (t_1, none)) : Res (Fl Unit (Str × (Option D)))) else
  .ex x_ : Res (Fl Unit (Str × (Option D))))) (fun (hdhT6 : Unit → Exn → Res (Fl Unit (Str × (Option D)))) => (exb (F_led told_ answers_) (hdhT6 ()) fun (r_ : D) =>
  .ok (.rt (("led" : Str), (some r_))) : Res (Fl Unit (Str × (Option D)))))) fun o => fin o (fun (s_1 : Unit) =>
  .bad) (fun r => .ok r)

/-- length: dyn -> int -/
noncomputable def F_length : Nat → D → Res Int
  | 0, _ => .bad
  | n_ + 1, plan_ =>
  nb (rdD (ixD plan_ (eI 0))) fun (t_ : D) =>
  nb (rb (eqD (eD t_) (eD (eS ("found" : Str))))) fun (t_1 : Bool) =>
  if t_1 = true then
  (.ok 0)
  else
  (nb (rdD (ixD plan_ (eI 2))) fun (t_2 : D) =>
  nb (F_length n_ t_2) fun (t_3 : Int) =>
  nb (rdD (ixD plan_ (eI 3))) fun (t_4 : D) =>
  nb (F_length n_ t_4) fun (t_5 : Int) =>
  .ok (1 + (max t_3 t_5)))

/-- _law_whole: int -> bool -/
noncomputable def F__law_whole (found_ : Int) : Res Bool :=
  .ok (true && (!false))

/-- _law_length: dyn -> int -/
noncomputable def F__law_length : Nat → D → Res Int
  | 0, _ => .bad
  | n_ + 1, told_ =>
  nb (rdD (ixD told_ (eI 0))) fun (t_ : D) =>
  nb (rb (eqD (eD t_) (eD (eS ("found" : Str))))) fun (t_1 : Bool) =>
  if t_1 = true then
  (.ok 0)
  else
  (nb (rdD (ixD told_ (eI 2))) fun (t_2 : D) =>
  nb (F__law_length n_ t_2) fun (t_3 : Int) =>
  nb (rdD (ixD told_ (eI 3))) fun (t_4 : D) =>
  nb (F__law_length n_ t_4) fun (t_5 : Int) =>
  .ok (1 + (max t_3 t_5)))

/-- law: scr -> bool -/
noncomputable def F_law (script_ : (List Int)) : Res Bool :=
  nb (F__law_cell_at script_ 0) fun (t_ : Int) =>
  nb (F__law_drawn_plan 16 t_ 4 10) fun (told_ : D) =>
  nb (F__law_cell_at script_ 1) fun (cell_ : Int) =>
  nb (F__law_cell_at script_ 2) fun (t_3 : Int) =>
  nb (rn1 (t_3 % 6)) fun (t_4 : (List Int)) =>
  nb (comp (fun (k_ : Int) => .ok true) (fun (k_ : Int) => (nb (atL [1, 2, 4, 8, 16] k_) fun (t_5 : Int) => nb (divI cell_ t_5) fun (t_6 : Int) => .ok (decide ((t_6 % 2) = 1)) : Res Bool)) t_4) fun (answers_ : (List Bool)) =>
  nb (.ok told_) fun (left_ : D) =>
  nb (.ok ("led" : Str)) fun (due_ : Str) =>
  nb (.ok 0) fun (used_ : Int) =>
  Res.bind (fo (fun (answer_ : Bool) (s_ : (D × Str × Int)) => (nb (rdD (ixD s_.1 (eI 0))) fun (t_8 : D) =>
  nb (rb (eqD (eD t_8) (eD (eS ("found" : Str))))) fun (t_9 : Bool) =>
  Res.bind (if t_9 = true then nb (.ok ("asking" : Str)) fun (due_1 : Str) =>
  .ok (s_.1, due_1, s_.2.2) else nb (.ok (s_.2.2 + 1)) fun (used_1 : Int) =>
  nb (rdD (ixD s_.1 (eI (2 + (b2i answer_))))) fun (left_1 : D) =>
  .ok (left_1, s_.2.1, used_1) : Res (D × Str × Int)) fun (s_1 : (D × Str × Int)) =>
  .ok (s_1.1, s_1.2.1, s_1.2.2) : Res (D × Str × Int))) answers_ (left_, due_, used_)) fun (s_2 : (D × Str × Int)) =>
  nb (F__law_cell_at script_ 3) fun (t_11 : Int) =>
  Res.bind (if (decide ((t_11 % 2) = 1)) = true then nb (.ok (cutL answers_ none (some s_2.2.2))) fun (answers_1 : (List Bool)) =>
  nb (.ok ("led" : Str)) fun (due_2 : Str) =>
  .ok (answers_1, due_2) else .ok (answers_, s_2.2.1) : Res ((List Bool) × Str)) fun (s_3 : ((List Bool) × Str)) =>
  nb (.ok s_3.1) fun (handed_ : (List Bool)) =>
  nb (F__law_tried told_ handed_) fun (found_ : (Str × (Option D))) =>
  if ((!(decide (handed_ = s_3.1))) || (!(decide (found_.1 = s_3.2)))) = true then
  (.ok false)
  else
  (nb (if (decide (s_3.2 = ("led" : Str))) = true then nb (rb (neD ((eO eD) found_.2) ((eO eD) (some s_2.1)))) fun (t_13 : Bool) => .ok t_13 else .ok false) fun (t_14 : Bool) =>
  if t_14 = true then
  (.ok false)
  else
  (nb (F_length 16 told_) fun (many_ : Int) =>
  nb (F__law_whole many_) fun (t_16 : Bool) =>
  nb (if (!t_16) = true then .ok true else nb (F__law_length 16 told_) fun (t_17 : Int) => .ok (!(decide (many_ = t_17)))) fun (t_18 : Bool) =>
  if t_18 = true then
  (.ok false)
  else
  (nb (if (decide (s_3.2 = ("asking" : Str))) = true then .ok true else nb (F_length 16 s_2.1) fun (t_19 : Int) => .ok (decide ((t_19 + (s_3.1.length : Int)) ≤ many_))) fun (t_20 : Bool) =>
  .ok t_20)))

theorem atL_n' {α : Type} {l : List α} {i : Nat} {x : α} (h : l[i]? = some x) : atL l (i : Int) = .ok x := atL_in (by omega) (by rw [Int.toNat_natCast]; exact h)
inductive Pl | found (v : Int) | ask (v : Int) (g b : Pl)
def eQ : Pl → D
  | .found v => .tup [.str "found", .int v]
  | .ask v g b => .tup [.str "ask", .int v, eQ g, eQ b]
def dep : Pl → Nat
  | .found _ => 0
  | .ask _ g b => 1 + max (dep g) (dep b)
theorem ixT {xs : List D} {k : Nat} {x : D} (h : xs[k]? = some x) : rdD (ixD (.tup xs) (eI (k : Int))) = .ok x := by
  have hk := (List.getElem?_eq_some_iff.mp h).1
  show rdD (L2.atI xs (k : Int)) = _
  unfold L2.atI
  rw [ixN_in (by omega) (by omega), Option.bind_some, Int.toNat_natCast, h]
  rfl
theorem ix0 {xs : List D} {x : D} (h : xs[0]? = some x) : rdD (ixD (.tup xs) (eI 0)) = .ok x := ixT (k := 0) h
theorem ix2 {xs : List D} {x : D} (h : xs[2]? = some x) : rdD (ixD (.tup xs) (eI 2)) = .ok x := ixT (k := 2) h
theorem ix3 {xs : List D} {x : D} (h : xs[3]? = some x) : rdD (ixD (.tup xs) (eI 3)) = .ok x := ixT (k := 3) h
theorem eqw (a b : Str) : rb (eqD (eD (.str a)) (eD (eS b))) = .ok (decide (a = b)) := by
  rw [show eqD (eD (.str a)) (eD (eS b)) = _ from eqP EqnS a b]
  rfl
theorem askne : ¬("ask" : Str) = "found" := by decide +kernel
/-- a plan led as far as may be, how many answers were used -/
def wk : Pl → List Bool → Pl × Nat
  | .found v, _ => (.found v, 0)
  | .ask v g b, [] => (.ask v g b, 0)
  | .ask _ _ b, true :: r => ((wk b r).1, (wk b r).2 + 1)
  | .ask _ g _, false :: r => ((wk g r).1, (wk g r).2 + 1)
theorem wk_le : ∀ (p : Pl) (as : List Bool), (wk p as).2 ≤ as.length ∧ dep (wk p as).1 + (wk p as).2 ≤ dep p
  | .found v, as => by unfold wk dep; exact ⟨Nat.zero_le _, Nat.le_refl _⟩
  | .ask v g b, [] => by unfold wk; exact ⟨Nat.zero_le _, Nat.le_refl _⟩
  | .ask v g b, true :: r => by
    obtain ⟨h1, h2⟩ := wk_le b r
    show (wk b r).2 + 1 ≤ _ ∧ dep (wk b r).1 + ((wk b r).2 + 1) ≤ 1 + max (dep g) (dep b)
    rw [List.length_cons]
    omega
  | .ask v g b, false :: r => by
    obtain ⟨h1, h2⟩ := wk_le g r
    show (wk g r).2 + 1 ≤ _ ∧ dep (wk g r).1 + ((wk g r).2 + 1) ≤ 1 + max (dep g) (dep b)
    rw [List.length_cons]
    omega
theorem led_ok : ∀ (p : Pl) (as : List Bool), F_led (eQ p) as = if (wk p as).2 = as.length then .ok (eQ (wk p as).1) else .ex ⟨"NoAsking", none⟩ := by
  have key : ∀ (as : List Bool) (p : Pl), fo (fun (answer_ : Bool) (plan_1 : D) => (nb (rdD (ixD plan_1 (eI 0))) fun (t_ : D) =>
  nb (rb (eqD (eD t_) (eD (eS ("found" : Str))))) fun (t_1 : Bool) =>
  if t_1 = true then
  (.ex ⟨"NoAsking", none⟩)
  else
  (Res.bind (if answer_ = true then nb (rdD (ixD plan_1 (eI 3))) fun (plan_2 : D) =>
  .ok plan_2 else nb (rdD (ixD plan_1 (eI 2))) fun (plan_3 : D) =>
  .ok plan_3 : Res D) fun (plan_4 : D) =>
  .ok plan_4) : Res D)) as (eQ p) = if (wk p as).2 = as.length then .ok (eQ (wk p as).1) else .ex ⟨"NoAsking", none⟩ := by
    intro as
    induction as with
    | nil =>
      intro p
      have e : wk p [] = (p, 0) := by cases p <;> rfl
      rw [e, if_pos (show (p, 0).2 = ([] : List Bool).length from rfl)]; rfl
    | cons a as ih =>
      intro p
      rw [fo]
      cases p with
      | found v =>
        rw [show eQ (.found v) = .tup [.str "found", .int v] from rfl, ix0 rfl, nb_ok, eqw, nb_ok, ite_t rfl, if_neg (show ¬((wk (.found v) (a :: as)).2 = (a :: as).length) from fun z => by cases z)]
        rfl
      | ask v g b =>
        rw [show eQ (.ask v g b) = .tup [.str "ask", .int v, eQ g, eQ b] from rfl, ix0 rfl, nb_ok, eqw, nb_ok, ite_f askne]
        cases a with
        | true =>
          rw [if_pos rfl, ix3 rfl, nb_ok, Res.bind_ok, Res.bind_ok, ih b]
          show _ = if (wk b as).2 + 1 = as.length + 1 then Res.ok (eQ (wk b as).1) else _
          by_cases h : (wk b as).2 = as.length
          · rw [if_pos h, if_pos (by omega)]
          · rw [if_neg h, if_neg (by omega)]
        | false =>
          rw [if_neg (show ¬(false = true) by decide), ix2 rfl, nb_ok, Res.bind_ok, Res.bind_ok, ih g]
          show _ = if (wk g as).2 + 1 = as.length + 1 then Res.ok (eQ (wk g as).1) else _
          by_cases h : (wk g as).2 = as.length
          · rw [if_pos h, if_pos (by omega)]
          · rw [if_neg h, if_neg (by omega)]
  intro p as
  unfold F_led
  rw [key as p]
  split <;> rfl
theorem length_ok : ∀ (n : Nat) (p : Pl), dep p < n → F_length n (eQ p) = .ok (dep p : Int) ∧ F__law_length n (eQ p) = .ok (dep p : Int)
  | 0, p, h => absurd h (Nat.not_lt_zero _)
  | n + 1, .found v, h => by
    unfold F_length F__law_length
    rw [show eQ (.found v) = .tup [.str "found", .int v] from rfl, ix0 rfl, nb_ok, nb_ok, eqw, nb_ok, nb_ok, ite_t rfl, ite_t rfl]
    exact ⟨rfl, rfl⟩
  | n + 1, .ask v g b, h => by
    have hd : dep (.ask v g b) = 1 + max (dep g) (dep b) := rfl
    obtain ⟨g1, g2⟩ := length_ok n g (by omega)
    obtain ⟨b1, b2⟩ := length_ok n b (by omega)
    unfold F_length F__law_length
    rw [show eQ (.ask v g b) = .tup [.str "ask", .int v, eQ g, eQ b] from rfl, ix0 rfl, nb_ok, nb_ok, eqw, nb_ok, nb_ok, ite_f askne, ite_f askne, ix2 rfl, nb_ok, nb_ok, ix3 rfl, g1, g2, nb_ok, nb_ok, nb_ok, nb_ok, b1, b2, nb_ok, hd]
    refine ⟨?_, ?_⟩ <;> congr 1 <;> omega
theorem drawn_ok : ∀ (n : Nat) (seed : Int) (deep : Nat) {most : Int}, 0 < most → deep < n → ∃ p, F__law_drawn_plan n seed (deep : Int) most = .ok (eQ p) ∧ dep p ≤ deep
  | 0, _, _, _, _, h => absurd h (Nat.not_lt_zero _)
  | n + 1, seed, deep, most, hm, h => by
    unfold F__law_drawn_plan
    obtain ⟨s1, e1, _⟩ := next_seed seed
    rw [e1, nb_ok]
    by_cases hc : ((deep : Int) = 0) ∨ (s1 / 7 % 3 = 0)
    · rw [if_pos (by rw [Bool.or_eq_true, decide_eq_true_eq, decide_eq_true_eq]; exact hc), modI_ok hm, nb_ok]
      exact ⟨.found (s1 / 64 % most), rfl, Nat.zero_le _⟩
    · rw [if_neg (by rw [Bool.or_eq_true, decide_eq_true_eq, decide_eq_true_eq]; exact hc)]
      have h0 : deep ≠ 0 := fun z => hc (.inl (by omega))
      obtain ⟨s2, e2, _⟩ := next_seed (s1 + 11)
      obtain ⟨s3, e3, _⟩ := next_seed (s1 + 23)
      have hd : (deep : Int) - 1 = ((deep - 1 : Nat) : Int) := by omega
      obtain ⟨g, eg, dg⟩ := drawn_ok n s2 (deep - 1) hm (by omega)
      obtain ⟨b, eb, db⟩ := drawn_ok n s3 (deep - 1) hm (by omega)
      rw [e2, nb_ok, hd, eg, nb_ok, modI_ok hm, nb_ok, e3, nb_ok, eb, nb_ok]
      exact ⟨.ask (s1 / 64 % most) g b, rfl, by show 1 + max (dep g) (dep b) ≤ deep; omega⟩
theorem eQ_plain : ∀ (n : Nat) (p : Pl), dep p < n → plain n (eQ p) = true
  | 0, p, h => absurd h (Nat.not_lt_zero _)
  | n + 1, .found v, h => by show plains (n + 1) [.str "found", .int v] = true; simp [plains, plain]
  | n + 1, .ask v g b, h => by
    have hd : dep (.ask v g b) = 1 + max (dep g) (dep b) := rfl
    show plains (n + 1) [.str "ask", .int v, eQ g, eQ b] = true
    simp [plains, plain, eQ_plain n g (by omega), eQ_plain n b (by omega)]
theorem eQ_eqv : ∀ p : Pl, eqv (eQ p) (eQ p) = true
  | .found v => by show eqv (.tup _) (.tup _) = true; simp [eqv, eqvs]
  | .ask v g b => by show eqv (.tup _) (.tup _) = true; simp [eqv, eqvs, eQ_eqv g, eQ_eqv b]
theorem in_NoAsking : decide (("NoAsking" : Str) ∈ exT) = true := by decide +kernel
theorem past_NoAsking : exS "NoAsking" "PastError" = true := by decide +kernel
theorem kind_NoAsking : F__law_kind "NoAsking" = .ok "asking" := by
  have e1 : [(exS "NoAsking" ("BadWeb" : Str)), (exS "NoAsking" ("NoVersion" : Str)), (exS "NoAsking" ("NoAsking" : Str))] = [false, false, true] := by decide +kernel
  have e2 : [(exS "NoAsking" ("BadRow" : Str)), (exS "NoAsking" ("NoFit" : Str)), (exS "NoAsking" ("BadTree" : Str)), (exS "NoAsking" ("Clash" : Str))] = [false, false, false, false] := by decide +kernel
  unfold F__law_kind
  rw [past_NoAsking, if_neg (by decide), e1, e2, nb_ok, nb_ok, if_neg (by decide)]
  have e3 : idxA [false, false, true] true = .ok 2 := by
    unfold idxA
    rw [if_pos (by decide)]
    rfl
  rw [e3, nb_ok]
  rfl
theorem tried_ok (p : Pl) (as : List Bool) : F__law_tried (eQ p) as = .ok (if (wk p as).2 = as.length then (("led" : Str), some (eQ (wk p as).1)) else (("asking" : Str), none)) := by
  unfold F__law_tried trF
  dsimp only
  rw [led_ok]
  by_cases h : (wk p as).2 = as.length
  · rw [if_pos h, if_pos h, exb_ok, Res.bind_ok, fin_rt]
  · rw [if_neg h, if_neg h, exb_ex]
    unfold grd
    rw [if_pos (by rw [in_NoAsking]; rfl)]
    dsimp only
    rw [if_pos past_NoAsking, kind_NoAsking, nb_ok, nox_ok, Res.bind_ok, fin_rt]
theorem ledne : ¬("asking" : Str) = "led" := by decide +kernel
theorem wk_take : ∀ (p : Pl) (as : List Bool), wk p (as.take (wk p as).2) = wk p as
  | .found v, as => by unfold wk; rfl
  | .ask v g b, [] => rfl
  | .ask v g b, true :: r => by
    show wk (.ask v g b) ((true :: r).take ((wk b r).2 + 1)) = _
    rw [List.take_succ_cons]
    show ((wk b (r.take (wk b r).2)).1, (wk b (r.take (wk b r).2)).2 + 1) = ((wk b r).1, (wk b r).2 + 1)
    rw [wk_take b r]
  | .ask v g b, false :: r => by
    show wk (.ask v g b) ((false :: r).take ((wk g r).2 + 1)) = _
    rw [List.take_succ_cons]
    show ((wk g (r.take (wk g r).2)).1, (wk g (r.take (wk g r).2)).2 + 1) = ((wk g r).1, (wk g r).2 + 1)
    rw [wk_take g r]
theorem law_loop : ∀ (as : List Bool) (p : Pl) (due : Str) (used : Nat), fo (fun (answer_ : Bool) (s_ : (D × Str × Int)) => (nb (rdD (ixD s_.1 (eI 0))) fun (t_8 : D) =>
  nb (rb (eqD (eD t_8) (eD (eS ("found" : Str))))) fun (t_9 : Bool) =>
  Res.bind (if t_9 = true then nb (.ok ("asking" : Str)) fun (due_1 : Str) =>
  .ok (s_.1, due_1, s_.2.2) else nb (.ok (s_.2.2 + 1)) fun (used_1 : Int) =>
  nb (rdD (ixD s_.1 (eI (2 + (b2i answer_))))) fun (left_1 : D) =>
  .ok (left_1, s_.2.1, used_1) : Res (D × Str × Int)) fun (s_1 : (D × Str × Int)) =>
  .ok (s_1.1, s_1.2.1, s_1.2.2) : Res (D × Str × Int))) as (eQ p, due, (used : Int)) = .ok (eQ (wk p as).1, (if (wk p as).2 = as.length then due else "asking"), ((used + (wk p as).2 : Nat) : Int))
  | [], p, due, used => by
    have e : wk p [] = (p, 0) := by cases p <;> rfl
    rw [e, if_pos (show (p, 0).2 = ([] : List Bool).length from rfl)]; rfl
  | a :: as, .found v, due, used => by
    rw [fo]
    dsimp only
    rw [show eQ (.found v) = .tup [.str "found", .int v] from rfl, ix0 rfl, nb_ok, eqw, nb_ok, ite_t rfl, nb_ok, Res.bind_ok, Res.bind_ok]
    have := law_loop as (.found v) "asking" used
    rw [show eQ (.found v) = .tup [.str "found", .int v] from rfl] at this
    rw [this, if_neg (show ¬((wk (.found v) (a :: as)).2 = (a :: as).length) from fun z => by cases z)]
    have e : ∀ l, wk (.found v) l = (.found v, 0) := fun l => by unfold wk; rfl
    rw [e, e]
    split <;> rfl
  | a :: as, .ask v g b, due, used => by
    rw [fo]
    dsimp only
    rw [show eQ (.ask v g b) = .tup [.str "ask", .int v, eQ g, eQ b] from rfl, ix0 rfl, nb_ok, eqw, nb_ok, ite_f askne, nb_ok]
    cases a with
    | true =>
      rw [show (2 + b2i true) = 3 from rfl, ix3 rfl, nb_ok, Res.bind_ok, Res.bind_ok]
      dsimp only
      rw [show (used : Int) + 1 = ((used + 1 : Nat) : Int) by omega, law_loop as b due (used + 1)]
      show _ = Res.ok (eQ (wk b as).1, (if (wk b as).2 + 1 = as.length + 1 then due else "asking"), ((used + ((wk b as).2 + 1) : Nat) : Int))
      rw [show used + ((wk b as).2 + 1) = used + 1 + (wk b as).2 by omega]
      by_cases h : (wk b as).2 = as.length
      · rw [if_pos h, if_pos (by omega)]
      · rw [if_neg h, if_neg (by omega)]
    | false =>
      rw [show (2 + b2i false) = 2 from rfl, ix2 rfl, nb_ok, Res.bind_ok, Res.bind_ok]
      dsimp only
      rw [show (used : Int) + 1 = ((used + 1 : Nat) : Int) by omega, law_loop as g due (used + 1)]
      show _ = Res.ok (eQ (wk g as).1, (if (wk g as).2 + 1 = as.length + 1 then due else "asking"), ((used + ((wk g as).2 + 1) : Nat) : Int))
      rw [show used + ((wk g as).2 + 1) = used + 1 + (wk g as).2 by omega]
      by_cases h : (wk g as).2 = as.length
      · rw [if_pos h, if_pos (by omega)]
      · rw [if_neg h, if_neg (by omega)]
theorem F_law_true (ns : List Int) : F_law ns = .ok true := by
  obtain ⟨c0, e0⟩ := cell_at_ok ns (k := 0) (by omega)
  obtain ⟨c1, e1⟩ := cell_at_ok ns (k := 1) (by omega)
  obtain ⟨c2, e2⟩ := cell_at_ok ns (k := 2) (by omega)
  obtain ⟨c3, e3⟩ := cell_at_ok ns (k := 3) (by omega)
  obtain ⟨p, ep, dp⟩ := drawn_ok 16 c0 4 (most := 10) (by omega) (by omega)
  rw [show ((4 : Nat) : Int) = 4 from rfl] at ep
  obtain ⟨m, hm⟩ : ∃ m : Nat, c2 % 6 = (m : Int) := ⟨(c2 % 6).toNat, by omega⟩
  have hm6 : m < 6 := by omega
  unfold F_law
  rw [e0, nb_ok, ep, nb_ok, e1, nb_ok, e2, nb_ok, hm, rn1_nat (by omega), nb_ok]
  have ans : ∃ as : List Bool, comp (fun (k_ : Int) => .ok true) (fun (k_ : Int) => (nb (atL [1, 2, 4, 8, 16] k_) fun (t_5 : Int) => nb (divI c1 t_5) fun (t_6 : Int) => .ok (decide ((t_6 % 2) = 1)) : Res Bool)) ((List.range m).map fun (i : Nat) => (i : Int)) = .ok as := by
    refine ⟨_, comp_map (q' := fun k => decide (c1 / ([1, 2, 4, 8, 16] : List Int).getD k.toNat 1 % 2 = 1)) fun k hk => ?_⟩
    obtain ⟨j, hj, rfl⟩ := List.mem_map.mp hk
    have hj := List.mem_range.mp hj
    rw [Int.toNat_natCast]
    rcases (by omega : j = 0 ∨ j = 1 ∨ j = 2 ∨ j = 3 ∨ j = 4) with rfl | rfl | rfl | rfl | rfl
    · rw [atL_n' (x := 1) rfl, nb_ok, divI_ok (by omega), nb_ok]; rfl
    · rw [atL_n' (x := 2) rfl, nb_ok, divI_ok (by omega), nb_ok]; rfl
    · rw [atL_n' (x := 4) rfl, nb_ok, divI_ok (by omega), nb_ok]; rfl
    · rw [atL_n' (x := 8) rfl, nb_ok, divI_ok (by omega), nb_ok]; rfl
    · rw [atL_n' (x := 16) rfl, nb_ok, divI_ok (by omega), nb_ok]; rfl
  obtain ⟨as, eas⟩ := ans
  have hloop := law_loop as p "led" 0
  rw [show ((0 : Nat) : Int) = 0 from rfl] at hloop
  rw [eas, nb_ok, nb_ok, nb_ok, nb_ok, hloop, Res.bind_ok, e3, nb_ok]
  dsimp only
  rw [Nat.zero_add]
  have hcut : cutL as none (some (((wk p as).2 : Nat) : Int)) = as.take (wk p as).2 := by
    have := (wk_le p as).1
    unfold cutL
    rw [HT.sIx_none, HT.sIx_nat, Nat.min_eq_left this, List.drop_zero, Nat.sub_zero]
  -- the rest, of answers that all lead, or as drawn
  have rest : ∀ (bs : List Bool) (due : Str), (due = "led" ∧ (wk p bs).2 = bs.length ∧ (wk p bs).1 = (wk p as).1 ∧ dep (wk p as).1 + bs.length ≤ dep p) ∨ (due = "asking" ∧ (wk p bs).2 ≠ bs.length) → (nb (.ok (bs, due).1) fun (handed_ : (List Bool)) =>
  nb (F__law_tried (eQ p) handed_) fun (found_ : (Str × (Option D))) =>
  if ((!(decide (handed_ = (bs, due).1))) || (!(decide (found_.1 = (bs, due).2)))) = true then
  (.ok false)
  else
  (nb (if (decide ((bs, due).2 = ("led" : Str))) = true then nb (rb (neD ((eO eD) found_.2) ((eO eD) (some (eQ (wk p as).1))))) fun (t_13 : Bool) => .ok t_13 else .ok false) fun (t_14 : Bool) =>
  if t_14 = true then
  (.ok false)
  else
  (nb (F_length 16 (eQ p)) fun (many_ : Int) =>
  nb (F__law_whole many_) fun (t_16 : Bool) =>
  nb (if (!t_16) = true then .ok true else nb (F__law_length 16 (eQ p)) fun (t_17 : Int) => .ok (!(decide (many_ = t_17)))) fun (t_18 : Bool) =>
  if t_18 = true then
  (.ok false)
  else
  (nb (if (decide ((bs, due).2 = ("asking" : Str))) = true then .ok true else nb (F_length 16 (eQ (wk p as).1)) fun (t_19 : Int) => .ok (decide ((t_19 + ((bs, due).1.length : Int)) ≤ many_))) fun (t_20 : Bool) =>
  .ok t_20))) : Res Bool) = .ok true := by
    intro bs due h
    obtain ⟨l1, l2⟩ := length_ok 16 p (by omega)
    have wl := (wk_le p as).2
    obtain ⟨l3, _⟩ := length_ok 16 (wk p as).1 (by omega)
    rw [nb_ok, tried_ok, nb_ok]
    dsimp only
    rcases h with ⟨rfl, h1, h2, h3⟩ | ⟨rfl, h1⟩
    · rw [if_pos h1]
      have hne : neD ((eO eD) (some (eQ (wk p bs).1))) ((eO eD) (some (eQ (wk p as).1))) = some (.bl false) := by
        rw [h2]
        show (if (plain 64 (eQ (wk p as).1) && plain 64 (eQ (wk p as).1)) = true then _ else _) = _
        rw [if_pos (by rw [eQ_plain 64 _ (by omega)]; rfl), show eqv (eO eD (some (eQ (wk p as).1))) (eO eD (some (eQ (wk p as).1))) = true from eQ_eqv _]
        rfl
      dsimp only
      rw [decide_eq_true rfl, decide_eq_true rfl, if_neg (by decide), if_pos (show true = true from rfl), hne, show rb (some (.bl false)) = .ok false from rfl, nb_ok, nb_ok, if_neg (by decide), l1, nb_ok, show F__law_whole (dep p : Int) = .ok true from rfl, nb_ok, if_neg (by decide), l2, nb_ok, decide_eq_true rfl, nb_ok, if_neg (by decide), ite_f (fun z => ledne z.symm), l3, nb_ok, nb_ok, decide_eq_true (by omega)]
    · rw [if_neg h1]
      dsimp only
      rw [decide_eq_true rfl, decide_eq_true rfl, if_neg (by decide), ite_f ledne, nb_ok, if_neg (by decide), l1, nb_ok, show F__law_whole (dep p : Int) = .ok true from rfl, nb_ok, if_neg (by decide), l2, nb_ok, decide_eq_true rfl, nb_ok, if_neg (by decide), if_pos (show true = true from rfl), nb_ok]
  obtain ⟨w1, w2⟩ := wk_le p as
  by_cases hc : c3 % 2 = 1
  · rw [ite_t hc, hcut, nb_ok, nb_ok, Res.bind_ok]
    refine rest (as.take (wk p as).2) "led" (.inl ⟨rfl, ?_, by rw [wk_take], ?_⟩)
    · rw [wk_take, List.length_take]; omega
    · rw [List.length_take]; omega
  · rw [ite_f hc, Res.bind_ok]
    by_cases h : (wk p as).2 = as.length
    · rw [if_pos h]
      exact rest as "led" (.inl ⟨rfl, h, rfl, by omega⟩)
    · rw [if_neg h]
      exact rest as "asking" (.inr ⟨rfl, h⟩)
end FL
namespace FL
open PySem PySem.Spec PyProof.Rows L2
noncomputable def B_led_1 : En → Flw := (seqF (ifF (tst (op2 eqD (op2 ixD (v 0) (c (.int 0))) (c (.str ("found" : Str)))))
  (raF ("NoAsking" : Str))
  .nx)
  (seqF (ifF (tst (v 2))
  (asg 0 (op2 ixD (v 0) (c (.int 3))))
  (asg 0 (op2 ixD (v 0) (c (.int 2)))))
  (fgF 2 .nx)))
/-- led: 0 plan, 1 answers, 2 answer -/
noncomputable def B_led : En → Flw := (seqF (forF (it1 itQ (v 1)) (sN 2)
  B_led_1)
  (fgF 2 (ret (v 0))))
noncomputable def D_led : List D → Res OT := run 2 3 B_led
/-- length: 0 plan -/
noncomputable def B_length : (List D → Res OT) → En → Flw := fun rc => (seqF (ifF (tst (op2 eqD (op2 ixD (v 0) (c (.int 0))) (c (.str ("found" : Str)))))
  (ret (c (.int 0)))
  .nx)
  (ret (op2 addD (c (.int 1)) (cal max2 (consA (fzE (call (nx0 rc) (consA (op2 ixD (v 0) (c (.int 2))) nilA))) (consA (fzE (call (nx0 rc) (consA (op2 ixD (v 0) (c (.int 3))) nilA))) nilA))))))
noncomputable def D_length : Nat → List D → Res OT
  | 0 => fun _ => .bad
  | n + 1 => run 1 1 (B_length (D_length n))
/-- _law_cell_at: 0 script, 1 k -/
noncomputable def B__law_cell_at : En → Flw := (seqF (ifF (tst (op2 ltD (v 1) (cal lenL (consA (v 0) nilA))))
  (ret (op2 ixD (v 0) (v 1)))
  .nx)
  (ret (c (.int 0))))
noncomputable def D__law_cell_at : List D → Res OT := run 2 2 B__law_cell_at
/-- _law_whole: 0 found -/
noncomputable def B__law_whole : En → Flw := (ret (andD (op1 (isiD "int") (v 0)) (notD (op1 (isiD "bool") (v 0)))))
noncomputable def D__law_whole : List D → Res OT := run 1 1 B__law_whole
/-- _law_next: 0 seed -/
noncomputable def B__law_next : En → Flw := (seqF (asg 0 (op2 modD (op2 addD (v 0) (c (.int 7919))) (c (.int 2147483647))))
  (ret (op2 modD (op2 addD (op2 addD (op2 mulD (v 0) (v 0)) (op2 mulD (c (.int 48271)) (v 0))) (c (.int 12345))) (c (.int 2147483629)))))
noncomputable def D__law_next : List D → Res OT := run 1 1 B__law_next
/-- _law_drawn_plan: 0 seed, 1 deep, 2 most, 3 good -/
noncomputable def B__law_drawn_plan : (List D → Res OT) → En → Flw := fun rc => (seqF (asg 0 (fzE (call (nx0 D__law_next) (consA (v 0) nilA))))
  (seqF (ifF (orT (tst (op2 eqD (v 1) (c (.int 0)))) (tst (op2 eqD (op2 modD (op2 fdivD (v 0) (c (.int 7))) (c (.int 3))) (c (.int 0)))))
  (ret (cal mkT (consA (c (.str ("found" : Str))) (consA (op2 modD (op2 fdivD (v 0) (c (.int 64))) (v 2)) nilA))))
  .nx)
  (seqF (asg 3 (fzE (call (nx0 rc) (consA (fzE (call (nx0 D__law_next) (consA (op2 addD (v 0) (c (.int 11))) nilA))) (consA (op2 subD (v 1) (c (.int 1))) (consA (v 2) nilA))))))
  (ret (cal mkT (consA (c (.str ("ask" : Str))) (consA (op2 modD (op2 fdivD (v 0) (c (.int 64))) (v 2)) (consA (v 3) (consA (fzE (call (nx0 rc) (consA (fzE (call (nx0 D__law_next) (consA (op2 addD (v 0) (c (.int 23))) nilA))) (consA (op2 subD (v 1) (c (.int 1))) (consA (v 2) nilA))))) nilA)))))))))
noncomputable def D__law_drawn_plan : Nat → List D → Res OT
  | 0 => fun _ => .bad
  | n + 1 => run 3 4 (B__law_drawn_plan (D__law_drawn_plan n))
/-- _law_kind: 0 e, 1 marks, 2 others -/
noncomputable def B__law_kind : Addr → Str → En → Flw := fun a xc => (seqF (ifF (orT (notT (tst (op1 (isX a true) (v 0)))) (notT (tst (op1 (isX a (exS xc ("PastError" : Str))) (v 0)))))
  (ret (c (.str ("other" : Str))))
  .nx)
  (seqF (asg 1 (cal mkL (consA (op1 (isX a (exS xc ("BadWeb" : Str))) (v 0)) (consA (op1 (isX a (exS xc ("NoVersion" : Str))) (v 0)) (consA (op1 (isX a (exS xc ("NoAsking" : Str))) (v 0)) nilA)))))
  (seqF (asg 2 (cal mkL (consA (op1 (isX a (exS xc ("BadRow" : Str))) (v 0)) (consA (op1 (isX a (exS xc ("NoFit" : Str))) (v 0)) (consA (op1 (isX a (exS xc ("BadTree" : Str))) (v 0)) (consA (op1 (isX a (exS xc ("Clash" : Str))) (v 0)) nilA))))))
  (seqF (ifF (orT (tst (op2 neD (met "list" cntL (v 1) (consA (c (.bl true)) nilA)) (c (.int 1)))) (tst (op2 inD1 (c (.bl true)) (v 2))))
  (ret (c (.str ("other" : Str))))
  .nx)
  (ret (op2 ixD (cal mkL (consA (c (.str ("web" : Str))) (consA (c (.str ("version" : Str))) (consA (c (.str ("asking" : Str))) nilA)))) (met "list" idxL (v 1) (consA (c (.bl true)) nilA))))))))
noncomputable def D__law_kind : Addr → Str → List D → Res OT := fun a xc => run 1 3 (B__law_kind a xc)
/-- _law_tried: 0 told, 1 answers, 2 e -/
noncomputable def B__law_tried : En → Flw := (tryF exT exS (ret (cal mkT (consA (c (.str ("led" : Str))) (consA (fzE (call D_led (consA (v 0) (consA (v 1) nilA)))) nilA))))
  (⟨("PastError" : Str), some 2, fun a xc => (ret (cal mkT (consA (fzE (call (nx0 (D__law_kind a xc)) (consA (v 2) nilA))) (consA (c .non) nilA))))⟩ :: []))
noncomputable def D__law_tried : List D → Res OT := run 2 3 B__law_tried
/-- _law_length: 0 told -/
noncomputable def B__law_length : (List D → Res OT) → En → Flw := fun rc => (seqF (ifF (tst (op2 eqD (op2 ixD (v 0) (c (.int 0))) (c (.str ("found" : Str)))))
  (ret (c (.int 0)))
  .nx)
  (ret (op2 addD (c (.int 1)) (cal max2 (consA (fzE (call (nx0 rc) (consA (op2 ixD (v 0) (c (.int 2))) nilA))) (consA (fzE (call (nx0 rc) (consA (op2 ixD (v 0) (c (.int 3))) nilA))) nilA))))))
noncomputable def D__law_length : Nat → List D → Res OT
  | 0 => fun _ => .bad
  | n + 1 => run 1 1 (B__law_length (D__law_length n))
noncomputable def B_law_1 : En → Flw := (seqF (ifF (tst (op2 eqD (op2 ixD (v 4) (c (.int 0))) (c (.str ("found" : Str)))))
  (asg 5 (c (.str ("asking" : Str))))
  (seqF (asg 6 (op2 addD (v 6) (c (.int 1))))
  (asg 4 (op2 ixD (v 4) (op2 addD (c (.int 2)) (cal int1 (consA (v 7) nilA)))))))
  (fgF 7 .nx))
/-- law: 0 script, 1 told, 2 cell, 3 answers, 4 left, 5 due, 6 used, 7 answer, 8 handed, 9 found, 10 many, 11 k -/
noncomputable def B_law : En → Flw := (seqF (asg 1 (fzE (call (nx0 (D__law_drawn_plan 16)) (consA (fzE (call (nx0 D__law_cell_at) (consA (v 0) (consA (c (.int 0)) nilA)))) (consA (c (.int 4)) (consA (c (.int 10)) nilA))))))
  (seqF (asg 2 (fzE (call (nx0 D__law_cell_at) (consA (v 0) (consA (c (.int 1)) nilA)))))
  (seqF (asgO 3 (lcD [11] (itA rg1 (consA (op2 modD (fzE (call (nx0 D__law_cell_at) (consA (v 0) (consA (c (.int 2)) nilA)))) (c (.int 6))) nilA)) (sN 11) yes (ofE (op2 eqD (op2 modD (op2 fdivD (v 2) (op2 ixD (cal mkL (consA (c (.int 1)) (consA (c (.int 2)) (consA (c (.int 4)) (consA (c (.int 8)) (consA (c (.int 16)) nilA)))))) (v 11))) (c (.int 2))) (c (.int 1))))))
  (fzF 3 (seqF (asg 4 (v 1))
  (seqF (asg 5 (c (.str ("led" : Str))))
  (seqF (asg 6 (c (.int 0)))
  (seqF (forF (it1 itQ (v 3)) (sN 7)
  B_law_1)
  (fgF 7 (seqF (ifF (tst (op2 eqD (op2 modD (fzE (call (nx0 D__law_cell_at) (consA (v 0) (consA (c (.int 3)) nilA)))) (c (.int 2))) (c (.int 1))))
  (seqF (asg 3 (sli (v 3) noP (part (v 6))))
  (asg 5 (c (.str ("led" : Str)))))
  .nx)
  (seqF (asg 8 (fzE (cal listO (consA (v 3) nilA))))
  (seqF (asg 9 (fzE (call (nx0 D__law_tried) (consA (v 1) (consA (v 8) nilA)))))
  (seqF (ifF (orT (tst (op2 neD (v 8) (v 3))) (tst (op2 neD (op2 ixD (v 9) (c (.int 0))) (v 5))))
  (ret (c (.bl false)))
  .nx)
  (seqF (ifF (andT (tst (op2 eqD (v 5) (c (.str ("led" : Str))))) (tst (op2 neD (op2 ixD (v 9) (c (.int 1))) (v 4))))
  (ret (c (.bl false)))
  .nx)
  (seqF (asg 10 (fzE (call (nx0 (D_length 16)) (consA (v 1) nilA))))
  (seqF (ifF (orT (notT (tst (fzE (call (nx0 D__law_whole) (consA (v 10) nilA))))) (tst (op2 neD (v 10) (fzE (call (nx0 (D__law_length 16)) (consA (v 1) nilA))))))
  (ret (c (.bl false)))
  .nx)
  (ret (orD (op2 eqD (v 5) (c (.str ("asking" : Str)))) (op2 leD (op2 addD (fzE (call (nx0 (D_length 16)) (consA (v 4) nilA))) (cal lenL (consA (v 3) nilA))) (v 10))))))))))))))))))))
noncomputable def D_law : List D → Res OT := run 1 12 B_law
theorem s__law_cell_at (script_ : (List Int)) (k_ : Int) : Sm False (oD eI) (F__law_cell_at script_ k_) (D__law_cell_at [eC script_, eI k_]) := Sm.run (a := 2) (n := 2) (F := B__law_cell_at) (ds := [eC script_, eI k_]) (ρ := [some (.d (eC script_)), some (.d (eI k_))]) rfl rfl fun T hT =>
  (Tg.ite (tstE (op2E rfl (calP (cnsP rfl nilE) (lnC script_)) rfl))
  (Tg.nb (e := eI) (r1 := (op2 ixD (v 0) (v 1)) [some (.d (eC script_)), some (.d (eI k_))]) (Sm.op2 rfl rfl ixC) fun t_ h1 =>
  (Tg.sret h1 (hT.rt rfl)))
  (Tg.nil (Tg.one (Tg.sret rfl (hT.rt rfl)))))
theorem s__law_next (seed_ : Int) : Sm False (oD eI) (F__law_next seed_) (D__law_next [eI seed_]) := Sm.run (a := 1) (n := 1) (F := B__law_next) (ds := [eI seed_]) (ρ := [some (.d (eI seed_))]) rfl rfl fun T hT =>
  (Tg.asg (e := eI) (t := ((seed_ + 7919) % 2147483647)) (op2E (op2E rfl rfl rfl) rfl (ev_mod (by decide))) fun seed_1 =>
  (Tg.one (Tg.nb (e := eI) (r1 := (op2 mulD (v 0) (v 0)) [some (.d (eI seed_1))]) (Sm.op2 rfl rfl muI) fun t_ h1 =>
  (Tg.sret (op2E (op2E (op2E h1 (op2E rfl rfl (ev_mul (.inl (by decide)))) rfl) rfl rfl) rfl (ev_mod (by decide))) (hT.rt rfl)))))
theorem s__law_drawn_plan : ∀ (n_ : Nat) (seed_ : Int) (deep_ : Int) (most_ : Int), Sm False (oD eD) (F__law_drawn_plan n_ seed_ deep_ most_) (D__law_drawn_plan n_ [eI seed_, eI deep_, eI most_])
  | 0, _, _, _ => trivial
  | n_ + 1, seed_, deep_, most_ => by
    have ih_ := s__law_drawn_plan n_
    exact Sm.run (a := 3) (n := 4) (F := B__law_drawn_plan (D__law_drawn_plan n_)) (ds := [eI seed_, eI deep_, eI most_]) (ρ := [some (.d (eI seed_)), some (.d (eI deep_)), some (.d (eI most_)), none]) rfl rfl fun T hT =>
  (Tg.nb (e := eI) (r1 := (fzE (call (nx0 D__law_next) (consA (v 0) nilA))) [some (.d (eI seed_)), some (.d (eI deep_)), some (.d (eI most_)), none]) (Sm.fzE zD (Sm.call0 (cnsP rfl nilE) (s__law_next seed_))) fun seed_1 h1 =>
  (Tg.asg1 h1 (Tg.ite (orQ (tstE (op2E rfl rfl (eqP EqnI deep_ 0))) (tstE (op2E (op2E (op2E rfl rfl (ev_div (by decide))) rfl (ev_mod (by decide))) rfl (eqP EqnI ((seed_1 / 7) % 3) 0))))
  (Tg.nb (e := eI) (r1 := (op2 modD (op2 fdivD (v 0) (c (.int 64))) (v 2)) [some (.d (eI seed_1)), some (.d (eI deep_)), some (.d (eI most_)), none]) (Sm.op2 (op2E rfl rfl (ev_div (by decide))) rfl moI) fun t_1 h2 =>
  (Tg.sret (calP (cnsP rfl (cnsP h2 nilE)) mkTP) (hT.rt rfl)))
  (Tg.nil (Tg.nb (e := eI) (r1 := (fzE (call (nx0 D__law_next) (consA (op2 addD (v 0) (c (.int 11))) nilA))) [some (.d (eI seed_1)), some (.d (eI deep_)), some (.d (eI most_)), none]) (Sm.fzE zD (Sm.call0 (cnsP (op2E rfl rfl rfl) nilE) (s__law_next (seed_1 + 11)))) fun t_2 h3 =>
  (Tg.nb (e := eD) (r1 := (fzE (call (nx0 (D__law_drawn_plan n_)) (consA (fzE (call (nx0 D__law_next) (consA (op2 addD (v 0) (c (.int 11))) nilA))) (consA (op2 subD (v 1) (c (.int 1))) (consA (v 2) nilA))))) [some (.d (eI seed_1)), some (.d (eI deep_)), some (.d (eI most_)), none]) (Sm.fzE zD (Sm.call0 (cnsP h3 (cnsP (op2E rfl rfl rfl) (cnsP rfl nilE))) (ih_ t_2 (deep_ - 1) most_))) fun good_ h4 =>
  (Tg.asg1 h4 (Tg.one (Tg.nb (e := eI) (r1 := (op2 modD (op2 fdivD (v 0) (c (.int 64))) (v 2)) [some (.d (eI seed_1)), some (.d (eI deep_)), some (.d (eI most_)), some (.d (eD good_))]) (Sm.op2 (op2E rfl rfl (ev_div (by decide))) rfl moI) fun t_4 h5 =>
  (Tg.nb (e := eI) (r1 := (fzE (call (nx0 D__law_next) (consA (op2 addD (v 0) (c (.int 23))) nilA))) [some (.d (eI seed_1)), some (.d (eI deep_)), some (.d (eI most_)), some (.d (eD good_))]) (Sm.fzE zD (Sm.call0 (cnsP (op2E rfl rfl rfl) nilE) (s__law_next (seed_1 + 23)))) fun t_5 h6 =>
  (Tg.nb (e := eD) (r1 := (fzE (call (nx0 (D__law_drawn_plan n_)) (consA (fzE (call (nx0 D__law_next) (consA (op2 addD (v 0) (c (.int 23))) nilA))) (consA (op2 subD (v 1) (c (.int 1))) (consA (v 2) nilA))))) [some (.d (eI seed_1)), some (.d (eI deep_)), some (.d (eI most_)), some (.d (eD good_))]) (Sm.fzE zD (Sm.call0 (cnsP h6 (cnsP (op2E rfl rfl rfl) (cnsP rfl nilE))) (ih_ t_5 (deep_ - 1) most_))) fun t_6 h7 =>
  (Tg.sret (calP (cnsP rfl (cnsP h5 (cnsP rfl (cnsP h7 nilE)))) mkTP) (hT.rt rfl)))))))))))))
theorem s_led (plan_ : D) (answers_ : (List Bool)) : Sm True (oD eD) (F_led plan_ answers_) (D_led [eD plan_, (eL eB) answers_]) := Sm.run (a := 2) (n := 3) (F := B_led) (ds := [eD plan_, (eL eB) answers_]) (ρ := [some (.d (eD plan_)), some (.d ((eL eB) answers_)), none]) rfl rfl fun T hT =>
  (Tg.fo (N := (fun (plan_1 : D) (ρ : En) => ρ = [some (.d (eD plan_1)), some (.d ((eL eB) answers_)), none])) (e := eB) (it1E rfl (wkL answers_)) rfl (fun TT8 hT8 answer_ plan_1 ρ hN => by
  obtain rfl := hN
  exact ⟨_, rfl, (Tg.nb (e := eD) (r1 := (op2 ixD (v 0) (c (.int 0))) [some (.d (eD plan_1)), some (.d ((eL eB) answers_)), some (.d (eB answer_))]) (Sm.op2 rfl rfl (fun _ h => rdD_some h)) fun t_ h9 =>
  (Tg.nb (e := eB) (r1 := (op2 eqD (op2 ixD (v 0) (c (.int 0))) (c (.str ("found" : Str)))) [some (.d (eD plan_1)), some (.d ((eL eB) answers_)), some (.d (eB answer_))]) (Sm.op2 (x := eD t_) (y := eD (eS ("found" : Str))) h9 rfl (fun _ h => rb_some h)) fun t_1 h10 =>
  (Tg.ite (tstE h10)
  (Tg.sra (hT8.X (hT.X _)))
  (Tg.nil (Tg.jn (N := (fun (plan_4 : D) (ρ : En) => ρ = [some (.d (eD plan_4)), some (.d ((eL eB) answers_)), some (.d (eB answer_))])) (fun TT13 hT13 => (Tg.ite1 (tstE rfl) (Tg.one (Tg.nb (e := eD) (r1 := (op2 ixD (v 0) (c (.int 3))) [some (.d (eD plan_1)), some (.d ((eL eB) answers_)), some (.d (eB answer_))]) (Sm.op2 rfl rfl (fun _ h => rdD_some h)) fun plan_2 h14 =>
  (Tg.asg1 h14 (hT13.nx rfl)))) (Tg.one (Tg.nb (e := eD) (r1 := (op2 ixD (v 0) (c (.int 2))) [some (.d (eD plan_1)), some (.d ((eL eB) answers_)), some (.d (eB answer_))]) (Sm.op2 rfl rfl (fun _ h => rdD_some h)) fun plan_3 h15 =>
  (Tg.asg1 h15 (hT13.nx rfl)))))) fun plan_4 ρ hN => by
  obtain rfl := hN
  exact (Tg.fg (hT8.nx rfl)))))))⟩) (fun plan_5 ρ hN => by
  obtain rfl := hN
  exact (Tg.fg (Tg.one (Tg.sret rfl (hT.rt rfl))))))
theorem s__law_kind (a : Addr) (xc : Str) : Sm False (oD eS) (F__law_kind xc) (D__law_kind a xc [D.exn a]) := Sm.run (a := 1) (n := 3) (F := B__law_kind a xc) (ds := [D.exn a]) (ρ := [some (.d (D.exn a)), none, none]) rfl rfl fun T hT =>
  (Tg.ite (orQ (notT_ok (tstE (op1X rfl))) (notT_ok (tstE (op1X rfl))))
  (Tg.sret rfl (hT.rt rfl))
  (Tg.nil (Tg.asg (e := (eL eB)) (t := [(exS xc ("BadWeb" : Str)), (exS xc ("NoVersion" : Str)), (exS xc ("NoAsking" : Str))]) (calP (cnsP (op1X rfl) (cnsP (op1X rfl) (cnsP (op1X rfl) nilE))) mkLP) fun marks_ =>
  (Tg.asg (e := (eL eB)) (t := [(exS xc ("BadRow" : Str)), (exS xc ("NoFit" : Str)), (exS xc ("BadTree" : Str)), (exS xc ("Clash" : Str))]) (calP (cnsP (op1X rfl) (cnsP (op1X rfl) (cnsP (op1X rfl) (cnsP (op1X rfl) nilE)))) mkLP) fun others_ =>
  (Tg.ite (orQ (tstE (op2E (metP rfl (cnsP rfl nilE) rfl (cntP EqnB (fun _ => rfl) marks_ true)) rfl (neP EqnI ((marks_.count true : Nat) : Int) 1))) (tstE (op2E rfl rfl (inP EqnB (fun _ => rfl) true others_))))
  (Tg.sret rfl (hT.rt rfl))
  (Tg.nil (Tg.one (Tg.nb (e := eI) (r1 := (met "list" idxL (v 1) (consA (c (.bl true)) nilA)) [some (.d (D.exn a)), some (.d ((eL eB) marks_)), some (.d ((eL eB) others_))]) (Sm.met rfl (cnsP rfl nilE) rfl (idxP EqnB (fun _ => rfl) marks_ true)) fun t_ h1 =>
  (Tg.nb (e := eS) (r1 := (op2 ixD (cal mkL (consA (c (.str ("web" : Str))) (consA (c (.str ("version" : Str))) (consA (c (.str ("asking" : Str))) nilA)))) (met "list" idxL (v 1) (consA (c (.bl true)) nilA))) [some (.d (D.exn a)), some (.d ((eL eB) marks_)), some (.d ((eL eB) others_))]) (Sm.op2 (calP (cnsP rfl (cnsP rfl (cnsP rfl nilE))) mkLP) h1 ixL) fun t_1 h2 =>
  (Tg.sret h2 (hT.rt rfl)))))))))))
theorem s__law_tried (told_ : D) (answers_ : (List Bool)) : Sm False (oD (eT2 eS (eO eD))) (F__law_tried told_ answers_) (D__law_tried [eD told_, (eL eB) answers_]) := Sm.run (a := 2) (n := 3) (F := B__law_tried) (ds := [eD told_, (eL eB) answers_]) (ρ := [some (.d (eD told_)), some (.d ((eL eB) answers_)), none]) rfl rfl fun T hT =>
  (Tg.one (Tg.try (N := (fun (s_1 : Unit) (ρ : En) => ρ = [some (.d (eD told_)), some (.d ((eL eB) answers_)), none])) (NX := (fun (s_ : Unit) (ρ : En) => ρ = [some (.d (eD told_)), some (.d ((eL eB) answers_)), none])) (er := (fun r o _ => o = (oD (eT2 eS (eO eD))) r)) (fun TT3 hT3 s_ x_ ρ hN => by
  obtain rfl := hN
  exact (Tg.hdlC (Tg.suite hT3 (n := some 2) (ΦN := fun (s_ : Unit) => [some (.d (eD told_)), some (.d ((eL eB) answers_)), none]) (Φ := (oD (eT2 eS (eO eD)))) (len := 3) (fun a TT4 hT4 =>
  (Tg.one (Tg.nb (e := eS) (r1 := (fzE (call (nx0 (D__law_kind a x_.c)) (consA (v 2) nilA))) [some (.d (eD told_)), some (.d ((eL eB) answers_)), some (.d (D.exn a))]) (Sm.fzE zD (Sm.call0 (cnsP rfl nilE) (s__law_kind a x_.c))) fun t_1 h5 =>
  (Tg.sret (calP (cnsP h5 (cnsP rfl nilE)) mkTP) (hT4.rt rfl))))) (fun s_ => rfl) (fun _ => rfl))
  (Tg.hdlN (hT3.X (hT.X _))))) (fun TT6 hT6 hdhT6 hhhT6 =>
  (Tg.one (Tg.xret  (Sm.pair (e := eD) (id (Sm.fzE zD (Sm.call (cnsP rfl (cnsP rfl nilE)) (s_led told_ answers_))))) (fun x_ => hhhT6 _ _ _ rfl) fun r_ => (hT6.rt rfl)))) (fun _ _ _ h => hT.rt h) (fun s_1 ρ hN => by
  obtain rfl := hN
  exact (Tg.bad _ _))))
theorem s_length : ∀ (n_ : Nat) (plan_ : D), Sm False (oD eI) (F_length n_ plan_) (D_length n_ [eD plan_])
  | 0, _ => trivial
  | n_ + 1, plan_ => by
    have ih_ := s_length n_
    exact Sm.run (a := 1) (n := 1) (F := B_length (D_length n_)) (ds := [eD plan_]) (ρ := [some (.d (eD plan_))]) rfl rfl fun T hT =>
  (Tg.nb (e := eD) (r1 := (op2 ixD (v 0) (c (.int 0))) [some (.d (eD plan_))]) (Sm.op2 rfl rfl (fun _ h => rdD_some h)) fun t_ h1 =>
  (Tg.nb (e := eB) (r1 := (op2 eqD (op2 ixD (v 0) (c (.int 0))) (c (.str ("found" : Str)))) [some (.d (eD plan_))]) (Sm.op2 (x := eD t_) (y := eD (eS ("found" : Str))) h1 rfl (fun _ h => rb_some h)) fun t_1 h2 =>
  (Tg.ite (tstE h2)
  (Tg.sret rfl (hT.rt rfl))
  (Tg.nil (Tg.one (Tg.nb (e := eD) (r1 := (op2 ixD (v 0) (c (.int 2))) [some (.d (eD plan_))]) (Sm.op2 rfl rfl (fun _ h => rdD_some h)) fun t_2 h3 =>
  (Tg.nb (e := eI) (r1 := (fzE (call (nx0 (D_length n_)) (consA (op2 ixD (v 0) (c (.int 2))) nilA))) [some (.d (eD plan_))]) (Sm.fzE zD (Sm.call0 (cnsP h3 nilE) (ih_ t_2))) fun t_3 h4 =>
  (Tg.nb (e := eD) (r1 := (op2 ixD (v 0) (c (.int 3))) [some (.d (eD plan_))]) (Sm.op2 rfl rfl (fun _ h => rdD_some h)) fun t_4 h5 =>
  (Tg.nb (e := eI) (r1 := (fzE (call (nx0 (D_length n_)) (consA (op2 ixD (v 0) (c (.int 3))) nilA))) [some (.d (eD plan_))]) (Sm.fzE zD (Sm.call0 (cnsP h5 nilE) (ih_ t_4))) fun t_5 h6 =>
  (Tg.sret (op2E rfl (calP (cnsP h4 (cnsP h6 nilE)) (mxP t_3 t_5)) rfl) (hT.rt rfl)))))))))))
theorem s__law_whole (found_ : Int) : Sm False (oD eB) (F__law_whole found_) (D__law_whole [eI found_]) := Sm.run (a := 1) (n := 1) (F := B__law_whole) (ds := [eI found_]) (ρ := [some (.d (eI found_))]) rfl rfl fun T hT =>
  (Tg.one (Tg.sret (andP (op1E rfl rfl) (notD_ok (op1E rfl rfl))) (hT.rt rfl)))
theorem s__law_length : ∀ (n_ : Nat) (told_ : D), Sm False (oD eI) (F__law_length n_ told_) (D__law_length n_ [eD told_])
  | 0, _ => trivial
  | n_ + 1, told_ => by
    have ih_ := s__law_length n_
    exact Sm.run (a := 1) (n := 1) (F := B__law_length (D__law_length n_)) (ds := [eD told_]) (ρ := [some (.d (eD told_))]) rfl rfl fun T hT =>
  (Tg.nb (e := eD) (r1 := (op2 ixD (v 0) (c (.int 0))) [some (.d (eD told_))]) (Sm.op2 rfl rfl (fun _ h => rdD_some h)) fun t_ h1 =>
  (Tg.nb (e := eB) (r1 := (op2 eqD (op2 ixD (v 0) (c (.int 0))) (c (.str ("found" : Str)))) [some (.d (eD told_))]) (Sm.op2 (x := eD t_) (y := eD (eS ("found" : Str))) h1 rfl (fun _ h => rb_some h)) fun t_1 h2 =>
  (Tg.ite (tstE h2)
  (Tg.sret rfl (hT.rt rfl))
  (Tg.nil (Tg.one (Tg.nb (e := eD) (r1 := (op2 ixD (v 0) (c (.int 2))) [some (.d (eD told_))]) (Sm.op2 rfl rfl (fun _ h => rdD_some h)) fun t_2 h3 =>
  (Tg.nb (e := eI) (r1 := (fzE (call (nx0 (D__law_length n_)) (consA (op2 ixD (v 0) (c (.int 2))) nilA))) [some (.d (eD told_))]) (Sm.fzE zD (Sm.call0 (cnsP h3 nilE) (ih_ t_2))) fun t_3 h4 =>
  (Tg.nb (e := eD) (r1 := (op2 ixD (v 0) (c (.int 3))) [some (.d (eD told_))]) (Sm.op2 rfl rfl (fun _ h => rdD_some h)) fun t_4 h5 =>
  (Tg.nb (e := eI) (r1 := (fzE (call (nx0 (D__law_length n_)) (consA (op2 ixD (v 0) (c (.int 3))) nilA))) [some (.d (eD told_))]) (Sm.fzE zD (Sm.call0 (cnsP h5 nilE) (ih_ t_4))) fun t_5 h6 =>
  (Tg.sret (op2E rfl (calP (cnsP h4 (cnsP h6 nilE)) (mxP t_3 t_5)) rfl) (hT.rt rfl)))))))))))
theorem s_law (script_ : (List Int)) : Sm False (oD eB) (F_law script_) (D_law [eC script_]) := Sm.run (a := 1) (n := 12) (F := B_law) (ds := [eC script_]) (ρ := [some (.d (eC script_)), none, none, none, none, none, none, none, none, none, none, none]) rfl rfl fun T hT =>
  (Tg.nb (e := eI) (r1 := (fzE (call (nx0 D__law_cell_at) (consA (v 0) (consA (c (.int 0)) nilA)))) [some (.d (eC script_)), none, none, none, none, none, none, none, none, none, none, none]) (Sm.fzE zD (Sm.call0 (cnsP rfl (cnsP rfl nilE)) (s__law_cell_at script_ 0))) fun t_ h1 =>
  (Tg.nb (e := eD) (r1 := (fzE (call (nx0 (D__law_drawn_plan 16)) (consA (fzE (call (nx0 D__law_cell_at) (consA (v 0) (consA (c (.int 0)) nilA)))) (consA (c (.int 4)) (consA (c (.int 10)) nilA))))) [some (.d (eC script_)), none, none, none, none, none, none, none, none, none, none, none]) (Sm.fzE zD (Sm.call0 (cnsP h1 (cnsP rfl (cnsP rfl nilE))) (s__law_drawn_plan 16 t_ 4 10))) fun told_ h2 =>
  (Tg.asg1 h2 (Tg.nb (e := eI) (r1 := (fzE (call (nx0 D__law_cell_at) (consA (v 0) (consA (c (.int 1)) nilA)))) [some (.d (eC script_)), some (.d (eD told_)), none, none, none, none, none, none, none, none, none, none]) (Sm.fzE zD (Sm.call0 (cnsP rfl (cnsP rfl nilE)) (s__law_cell_at script_ 1))) fun cell_ h3 =>
  (Tg.asg1 h3 (Tg.nb (e := eI) (r1 := (fzE (call (nx0 D__law_cell_at) (consA (v 0) (consA (c (.int 2)) nilA)))) [some (.d (eC script_)), some (.d (eD told_)), some (.d (eI cell_)), none, none, none, none, none, none, none, none, none]) (Sm.fzE zD (Sm.call0 (cnsP rfl (cnsP rfl nilE)) (s__law_cell_at script_ 2))) fun t_3 h4 =>
  (Tg.nb (e := (List.map eI)) (r1 := (itA rg1 (consA (op2 modD (fzE (call (nx0 D__law_cell_at) (consA (v 0) (consA (c (.int 2)) nilA)))) (c (.int 6))) nilA)) [some (.d (eC script_)), some (.d (eD told_)), some (.d (eI cell_)), none, none, none, none, none, none, none, none, none]) (Sm.itA (e := List.map eI) (cnsP (op2E h4 rfl (ev_mod (by decide))) nilE) wr1) fun t_4 h5 =>
  (Tg.nb (e := (oL (oD eB))) (r1 := (lcD [11] (itA rg1 (consA (op2 modD (fzE (call (nx0 D__law_cell_at) (consA (v 0) (consA (c (.int 2)) nilA)))) (c (.int 6))) nilA)) (sN 11) yes (ofE (op2 eqD (op2 modD (op2 fdivD (v 2) (op2 ixD (cal mkL (consA (c (.int 1)) (consA (c (.int 2)) (consA (c (.int 4)) (consA (c (.int 8)) (consA (c (.int 16)) nilA)))))) (v 11))) (c (.int 2))) (c (.int 1))))) [some (.d (eC script_)), some (.d (eD told_)), some (.d (eI cell_)), none, none, none, none, none, none, none, none, none]) (Sm.comp (e := eI) (eo := (oD eB)) h5 fun k_ => ⟨_, rfl, (Sm.p rfl), (Sm.nb (e1 := eI) (r1 := (op2 ixD (cal mkL (consA (c (.int 1)) (consA (c (.int 2)) (consA (c (.int 4)) (consA (c (.int 8)) (consA (c (.int 16)) nilA)))))) (v 11)) [some (.d (eC script_)), some (.d (eD told_)), some (.d (eI cell_)), none, none, none, none, none, none, none, none, some (.d (eI k_))]) (Sm.op2 (calP (cnsP rfl (cnsP rfl (cnsP rfl (cnsP rfl (cnsP rfl nilE))))) mkLP) rfl ixL) fun t_5 h6 => (Sm.nb (e1 := eI) (r1 := (op2 fdivD (v 2) (op2 ixD (cal mkL (consA (c (.int 1)) (consA (c (.int 2)) (consA (c (.int 4)) (consA (c (.int 8)) (consA (c (.int 16)) nilA)))))) (v 11))) [some (.d (eC script_)), some (.d (eD told_)), some (.d (eI cell_)), none, none, none, none, none, none, none, none, some (.d (eI k_))]) (Sm.op2 rfl h6 diI) fun t_6 h7 => (Sm.p (ofP (op2E (op2E h7 rfl (ev_mod (by decide))) rfl (eqP EqnI (t_6 % 2) 1))))))⟩) fun answers_ h8 =>
  (Tg.asgO1 h8 (Tg.fz (i := 3) rfl ((zL zD) answers_) (Tg.asg (e := eD) (t := told_) rfl fun left_ =>
  (Tg.asg (e := eS) (t := ("led" : Str)) rfl fun due_ =>
  (Tg.asg (e := eI) (t := 0) rfl fun used_ =>
  (Tg.fo (N := (fun (s_ : (D × Str × Int)) (ρ : En) => ρ = [some (.d (eC script_)), some (.d (eD told_)), some (.d (eI cell_)), some (.d ((eL eB) answers_)), some (.d (eD s_.1)), some (.d (eS s_.2.1)), some (.d (eI s_.2.2)), none, none, none, none, none])) (e := eB) (it1E rfl (wkL answers_)) rfl (fun TT14 hT14 answer_ s_ ρ hN => by
  obtain rfl := hN
  exact ⟨_, rfl, (Tg.nb (e := eD) (r1 := (op2 ixD (v 4) (c (.int 0))) [some (.d (eC script_)), some (.d (eD told_)), some (.d (eI cell_)), some (.d ((eL eB) answers_)), some (.d (eD s_.1)), some (.d (eS s_.2.1)), some (.d (eI s_.2.2)), some (.d (eB answer_)), none, none, none, none]) (Sm.op2 rfl rfl (fun _ h => rdD_some h)) fun t_8 h15 =>
  (Tg.nb (e := eB) (r1 := (op2 eqD (op2 ixD (v 4) (c (.int 0))) (c (.str ("found" : Str)))) [some (.d (eC script_)), some (.d (eD told_)), some (.d (eI cell_)), some (.d ((eL eB) answers_)), some (.d (eD s_.1)), some (.d (eS s_.2.1)), some (.d (eI s_.2.2)), some (.d (eB answer_)), none, none, none, none]) (Sm.op2 (x := eD t_8) (y := eD (eS ("found" : Str))) h15 rfl (fun _ h => rb_some h)) fun t_9 h16 =>
  (Tg.jn (N := (fun (s_1 : (D × Str × Int)) (ρ : En) => ρ = [some (.d (eC script_)), some (.d (eD told_)), some (.d (eI cell_)), some (.d ((eL eB) answers_)), some (.d (eD s_1.1)), some (.d (eS s_1.2.1)), some (.d (eI s_1.2.2)), some (.d (eB answer_)), none, none, none, none])) (fun TT18 hT18 => (Tg.ite1 (tstE h16) (Tg.one (Tg.asg (e := eS) (t := ("asking" : Str)) rfl fun due_1 =>
  (hT18.nx rfl))) (Tg.asg (e := eI) (t := (s_.2.2 + 1)) (op2E rfl rfl rfl) fun used_1 =>
  (Tg.one (Tg.nb (e := eD) (r1 := (op2 ixD (v 4) (op2 addD (c (.int 2)) (cal int1 (consA (v 7) nilA)))) [some (.d (eC script_)), some (.d (eD told_)), some (.d (eI cell_)), some (.d ((eL eB) answers_)), some (.d (eD s_.1)), some (.d (eS s_.2.1)), some (.d (eI used_1)), some (.d (eB answer_)), none, none, none, none]) (Sm.op2 rfl (op2E rfl (calP (cnsP rfl nilE) rfl) rfl) (fun _ h => rdD_some h)) fun left_1 h19 =>
  (Tg.asg1 h19 (hT18.nx rfl))))))) fun s_1 ρ hN => by
  obtain rfl := hN
  exact (Tg.fg (hT14.nx rfl)))))⟩) (fun s_2 ρ hN => by
  obtain rfl := hN
  exact (Tg.fg (Tg.nb (e := eI) (r1 := (fzE (call (nx0 D__law_cell_at) (consA (v 0) (consA (c (.int 3)) nilA)))) [some (.d (eC script_)), some (.d (eD told_)), some (.d (eI cell_)), some (.d ((eL eB) answers_)), some (.d (eD s_2.1)), some (.d (eS s_2.2.1)), some (.d (eI s_2.2.2)), none, none, none, none, none]) (Sm.fzE zD (Sm.call0 (cnsP rfl (cnsP rfl nilE)) (s__law_cell_at script_ 3))) fun t_11 h20 =>
  (Tg.jn (N := (fun (s_3 : ((List Bool) × Str)) (ρ : En) => ρ = [some (.d (eC script_)), some (.d (eD told_)), some (.d (eI cell_)), some (.d ((eL eB) s_3.1)), some (.d (eD s_2.1)), some (.d (eS s_3.2)), some (.d (eI s_2.2.2)), none, none, none, none, none])) (fun TT21 hT21 => (Tg.ite1 (tstE (op2E (op2E h20 rfl (ev_mod (by decide))) rfl (eqP EqnI (t_11 % 2) 1))) (Tg.asg (e := (eL eB)) (t := (cutL answers_ none (some s_2.2.2))) (sliP rfl rfl (partP rfl) (slL answers_ _ _)) fun answers_1 =>
  (Tg.one (Tg.asg (e := eS) (t := ("led" : Str)) rfl fun due_2 =>
  (hT21.nx rfl)))) (hT21.nx rfl))) fun s_3 ρ hN => by
  obtain rfl := hN
  exact (Tg.asg (e := (eL eB)) (t := s_3.1) (fzP (zL zD) (calP (cnsP rfl nilE) (liL s_3.1))) fun handed_ =>
  (Tg.nb (e := (eT2 eS (eO eD))) (r1 := (fzE (call (nx0 D__law_tried) (consA (v 1) (consA (v 8) nilA)))) [some (.d (eC script_)), some (.d (eD told_)), some (.d (eI cell_)), some (.d ((eL eB) s_3.1)), some (.d (eD s_2.1)), some (.d (eS s_3.2)), some (.d (eI s_2.2.2)), none, some (.d ((eL eB) handed_)), none, none, none]) (Sm.fzE zD (Sm.call0 (cnsP rfl (cnsP rfl nilE)) (s__law_tried told_ handed_))) fun found_ h22 =>
  (Tg.asg1 h22 (Tg.ite (orQ (tstE (op2E rfl rfl (neP (EqnL EqnB) handed_ s_3.1))) (tstE (op2E (op2E rfl rfl rfl) rfl (neP EqnS found_.1 s_3.2))))
  (Tg.sret rfl (hT.rt rfl))
  (Tg.nil (Tg.nb (e := id) (r1 := (andT (tst (op2 eqD (v 5) (c (.str ("led" : Str))))) (tst (op2 neD (op2 ixD (v 9) (c (.int 1))) (v 4)))) [some (.d (eC script_)), some (.d (eD told_)), some (.d (eI cell_)), some (.d ((eL eB) s_3.1)), some (.d (eD s_2.1)), some (.d (eS s_3.2)), some (.d (eI s_2.2.2)), none, some (.d ((eL eB) handed_)), some (.d ((eT2 eS (eO eD)) found_)), none, none]) (Sm.andT (tstE (op2E rfl rfl (eqP EqnS s_3.2 ("led" : Str)))) (Sm.nb (e1 := eB) (r1 := (op2 neD (op2 ixD (v 9) (c (.int 1))) (v 4)) [some (.d (eC script_)), some (.d (eD told_)), some (.d (eI cell_)), some (.d ((eL eB) s_3.1)), some (.d (eD s_2.1)), some (.d (eS s_3.2)), some (.d (eI s_2.2.2)), none, some (.d ((eL eB) handed_)), some (.d ((eT2 eS (eO eD)) found_)), none, none]) (Sm.op2 (x := (eO eD) found_.2) (y := (eO eD) (some s_2.1)) (op2E rfl rfl rfl) rfl (fun _ h => rb_some h)) fun t_13 h23 => (Sm.p (tstE h23)))) fun t_14 h24 =>
  (Tg.ite h24
  (Tg.sret rfl (hT.rt rfl))
  (Tg.nil (Tg.nb (e := eI) (r1 := (fzE (call (nx0 (D_length 16)) (consA (v 1) nilA))) [some (.d (eC script_)), some (.d (eD told_)), some (.d (eI cell_)), some (.d ((eL eB) s_3.1)), some (.d (eD s_2.1)), some (.d (eS s_3.2)), some (.d (eI s_2.2.2)), none, some (.d ((eL eB) handed_)), some (.d ((eT2 eS (eO eD)) found_)), none, none]) (Sm.fzE zD (Sm.call0 (cnsP rfl nilE) (s_length 16 told_))) fun many_ h25 =>
  (Tg.asg1 h25 (Tg.nb (e := eB) (r1 := (fzE (call (nx0 D__law_whole) (consA (v 10) nilA))) [some (.d (eC script_)), some (.d (eD told_)), some (.d (eI cell_)), some (.d ((eL eB) s_3.1)), some (.d (eD s_2.1)), some (.d (eS s_3.2)), some (.d (eI s_2.2.2)), none, some (.d ((eL eB) handed_)), some (.d ((eT2 eS (eO eD)) found_)), some (.d (eI many_)), none]) (Sm.fzE zD (Sm.call0 (cnsP rfl nilE) (s__law_whole many_))) fun t_16 h26 =>
  (Tg.nb (e := id) (r1 := (orT (notT (tst (fzE (call (nx0 D__law_whole) (consA (v 10) nilA))))) (tst (op2 neD (v 10) (fzE (call (nx0 (D__law_length 16)) (consA (v 1) nilA)))))) [some (.d (eC script_)), some (.d (eD told_)), some (.d (eI cell_)), some (.d ((eL eB) s_3.1)), some (.d (eD s_2.1)), some (.d (eS s_3.2)), some (.d (eI s_2.2.2)), none, some (.d ((eL eB) handed_)), some (.d ((eT2 eS (eO eD)) found_)), some (.d (eI many_)), none]) (Sm.orT (notT_ok (tstE h26)) (Sm.nb (e1 := eI) (r1 := (fzE (call (nx0 (D__law_length 16)) (consA (v 1) nilA))) [some (.d (eC script_)), some (.d (eD told_)), some (.d (eI cell_)), some (.d ((eL eB) s_3.1)), some (.d (eD s_2.1)), some (.d (eS s_3.2)), some (.d (eI s_2.2.2)), none, some (.d ((eL eB) handed_)), some (.d ((eT2 eS (eO eD)) found_)), some (.d (eI many_)), none]) (Sm.fzE zD (Sm.call0 (cnsP rfl nilE) (s__law_length 16 told_))) fun t_17 h27 => (Sm.p (tstE (op2E rfl h27 (neP EqnI many_ t_17)))))) fun t_18 h28 =>
  (Tg.ite h28
  (Tg.sret rfl (hT.rt rfl))
  (Tg.nil (Tg.one (Tg.nb (e := eB) (r1 := (orD (op2 eqD (v 5) (c (.str ("asking" : Str)))) (op2 leD (op2 addD (fzE (call (nx0 (D_length 16)) (consA (v 4) nilA))) (cal lenL (consA (v 3) nilA))) (v 10))) [some (.d (eC script_)), some (.d (eD told_)), some (.d (eI cell_)), some (.d ((eL eB) s_3.1)), some (.d (eD s_2.1)), some (.d (eS s_3.2)), some (.d (eI s_2.2.2)), none, some (.d ((eL eB) handed_)), some (.d ((eT2 eS (eO eD)) found_)), some (.d (eI many_)), none]) (Sm.or (op2E rfl rfl (eqP EqnS s_3.2 ("asking" : Str))) (Sm.nb (e1 := eI) (r1 := (fzE (call (nx0 (D_length 16)) (consA (v 4) nilA))) [some (.d (eC script_)), some (.d (eD told_)), some (.d (eI cell_)), some (.d ((eL eB) s_3.1)), some (.d (eD s_2.1)), some (.d (eS s_3.2)), some (.d (eI s_2.2.2)), none, some (.d ((eL eB) handed_)), some (.d ((eT2 eS (eO eD)) found_)), some (.d (eI many_)), none]) (Sm.fzE zD (Sm.call0 (cnsP rfl nilE) (s_length 16 s_2.1))) fun t_19 h29 => (Sm.p (op2E (op2E h29 (calP (cnsP rfl nilE) (lnL s_3.1)) rfl) rfl rfl)))) fun t_20 h30 =>
  (Tg.sret h30 (hT.rt rfl))))))))))))))))))))))))))))))))))))
theorem law_true (ns : List Int) (h63 : ns.length ≤ 63) : D_law [.scr ns] = .ok (.d (.bl true)) := by
  have h := s_law ns
  rw [F_law_true] at h
  exact h
def topS (i : Nat) : Stmt := PySem.Challenge.pw_pasthall_k47_led.main.body.getD i (.Pass ⟨0, 0, 0, 0⟩)
abbrev st_led : Stmt := topS 10
abbrev N_led : List Str := [("plan" : Str), ("answers" : Str), ("answer" : Str)]
abbrev st_length : Stmt := topS 11
abbrev N_length : List Str := [("plan" : Str)]
abbrev st__law_cell_at : Stmt := topS 13
abbrev N__law_cell_at : List Str := [("script" : Str), ("k" : Str)]
abbrev st__law_whole : Stmt := topS 14
abbrev N__law_whole : List Str := [("found" : Str)]
abbrev st__law_next : Stmt := topS 15
abbrev N__law_next : List Str := [("seed" : Str)]
abbrev st__law_drawn_plan : Stmt := topS 16
abbrev N__law_drawn_plan : List Str := [("seed" : Str), ("deep" : Str), ("most" : Str), ("good" : Str)]
abbrev st__law_kind : Stmt := topS 17
abbrev N__law_kind : List Str := [("e" : Str), ("marks" : Str), ("others" : Str)]
abbrev st__law_tried : Stmt := topS 18
abbrev N__law_tried : List Str := [("told" : Str), ("answers" : Str), ("e" : Str)]
abbrev st__law_length : Stmt := topS 19
abbrev N__law_length : List Str := [("told" : Str)]
abbrev st_law : Stmt := topS 20
abbrev N_law : List Str := [("script" : Str), ("told" : Str), ("cell" : Str), ("answers" : Str), ("left" : Str), ("due" : Str), ("used" : Str), ("answer" : Str), ("handed" : Str), ("found" : Str), ("many" : Str), ("k" : Str)]
structure Tx (K : PySem.W.Frag) (mg : Str → Option Value) : Prop where
  b_ValueError : mg "ValueError" = none
  b_bool : mg "bool" = none
  b_int : mg "int" = none
  b_isinstance : mg "isinstance" = none
  b_len : mg "len" = none
  b_list : mg "list" = none
  b_max : mg "max" = none
  b_range : mg "range" = none
  exk : ExK K mg exT exS
  r_NoAsking : Rz K mg "NoAsking"
  d_led : Dn K mg "led" st_led [("plan" : Str), ("answers" : Str)]
  d_length : Dn K mg "length" st_length [("plan" : Str)]
  d__law_cell_at : Dn K mg "_law_cell_at" st__law_cell_at [("script" : Str), ("k" : Str)]
  d__law_whole : Dn K mg "_law_whole" st__law_whole [("found" : Str)]
  d__law_next : Dn K mg "_law_next" st__law_next [("seed" : Str)]
  d__law_drawn_plan : Dn K mg "_law_drawn_plan" st__law_drawn_plan [("seed" : Str), ("deep" : Str), ("most" : Str)]
  d__law_kind : Dn K mg "_law_kind" st__law_kind [("e" : Str)]
  d__law_tried : Dn K mg "_law_tried" st__law_tried [("told" : Str), ("answers" : Str)]
  d__law_length : Dn K mg "_law_length" st__law_length [("told" : Str)]
  d_law : Dn K mg "law" st_law [("script" : Str)]
section
variable {P : Program} {w : World} {K : PySem.W.Frag} {mg : Str → Option Value} {base : Heap}
theorem sc_led : FnScope N_led [("plan" : Str), ("answers" : Str)] (defScope st_led) := ⟨rfl, rfl, rfl, by decide +kernel, rfl, by decide +kernel, by decide +kernel⟩
set_option maxHeartbeats 4000000 in
theorem ok_led (T : Tx K mg) : Cal P w K mg base (L2N.CX P w) True "led" 1 D_led := by
  have hnd := sc_led.nd
  obtain ⟨f, fd, Fn, hm, hk, hb⟩ := T.d_led.ex
  exact ⟨f, fd, _, fnX Fn sc_led (fun cdv A outer s H E hr => (SS.cons (S1.for (vs := [2]) (passes_of rfl) rfl (EI.sq (EF.var 1)) (EG.nm 2 hnd)
  (SS.cons (S1.ite (ET.c (EC.op (eq_ok (hu64 hr)) (EF.ix (hu64 hr) (EF.var 0) EF.int) EF.str))
  (SS.one (S1.raise rfl (L2N.takes_of rfl rfl rfl rfl) T.r_NoAsking))
  SS.nil)
  (SS.cons (S1.ite (ET.v (EF.var 2))
  (SS.one (S1.asg 0 (EF.ix (hu64 hr) (EF.var 0) EF.int) hnd))
  (SS.one (S1.asg 0 (EF.ix (hu64 hr) (EF.var 0) EF.int) hnd)))
  (SS.fg 2 SS.nil))))
  (SS.fg 2 (SS.one (S1.ret (EF.var 0)))))), hm, hk, hb⟩
theorem sc_length : FnScope N_length [("plan" : Str)] (defScope st_length) := ⟨rfl, rfl, rfl, by decide +kernel, rfl, by decide +kernel, by decide +kernel⟩
set_option maxHeartbeats 4000000 in
theorem ok_length (T : Tx K mg) : ∀ n, Cal P w K mg base CX0 False "length" (n + 0) (D_length n)
  | 0 => Cal.zero T.d_length
  | n + 1 => by
    have hnd := sc_length.nd
    have hrec := ok_length T n
    obtain ⟨f, fd, Fn, hm, hk, hb⟩ := T.d_length.ex
    exact ⟨f, fd, _, fn0 Fn sc_length (fun cdv A outer s H E hr => (SS.cons (S1.ite (ET.c (EC.op (eq_ok (hu64 hr)) (EF.ix (hu64 hr) (EF.var 0) EF.int) EF.str))
  (SS.one (S1.ret EF.int))
  SS.nil)
  (SS.one (S1.ret (EF.bin add_ok EF.int (EF.callB (max2_ok rfl) T.b_max (by decide +kernel) (EA.cons (EF.ofO (EO.call0 hrec hr (EA.cons (EF.ix (hu64 hr) (EF.var 0) EF.int) EA.nil))) (EA.cons (EF.ofO (EO.call0 hrec hr (EA.cons (EF.ix (hu64 hr) (EF.var 0) EF.int) EA.nil))) EA.nil)))))))), hm, hk, hb⟩
theorem sc__law_cell_at : FnScope N__law_cell_at [("script" : Str), ("k" : Str)] (defScope st__law_cell_at) := ⟨rfl, rfl, rfl, by decide +kernel, rfl, by decide +kernel, by decide +kernel⟩
set_option maxHeartbeats 4000000 in
theorem ok__law_cell_at (T : Tx K mg) : Cal P w K mg base CX0 False "_law_cell_at" 1 D__law_cell_at := by
  have hnd := sc__law_cell_at.nd
  obtain ⟨f, fd, Fn, hm, hk, hb⟩ := T.d__law_cell_at.ex
  exact ⟨f, fd, _, fn0 Fn sc__law_cell_at (fun cdv A outer s H E hr => (SS.cons (S1.ite (ET.c (EC.op (lt_ok (hu64 hr)) (EF.var 1) (EF.callB len_ok T.b_len (by decide +kernel) (EA.cons (EF.var 0) EA.nil))))
  (SS.one (S1.ret (EF.ix (hu64 hr) (EF.var 0) (EF.var 1))))
  SS.nil)
  (SS.one (S1.ret EF.int)))), hm, hk, hb⟩
theorem sc__law_whole : FnScope N__law_whole [("found" : Str)] (defScope st__law_whole) := ⟨rfl, rfl, rfl, by decide +kernel, rfl, by decide +kernel, by decide +kernel⟩
set_option maxHeartbeats 4000000 in
theorem ok__law_whole (T : Tx K mg) : Cal P w K mg base CX0 False "_law_whole" 1 D__law_whole := by
  have hnd := sc__law_whole.nd
  obtain ⟨f, fd, Fn, hm, hk, hb⟩ := T.d__law_whole.ex
  exact ⟨f, fd, _, fn0 Fn sc__law_whole (fun cdv A outer s H E hr => (SS.one (S1.ret (EF.and (EF.isi (T := "int") T.b_isinstance T.b_int (EF.var 0)) (EF.one (EF.not (EF.isi (T := "bool") T.b_isinstance T.b_bool (EF.var 0)))))))), hm, hk, hb⟩
theorem sc__law_next : FnScope N__law_next [("seed" : Str)] (defScope st__law_next) := ⟨rfl, rfl, rfl, by decide +kernel, rfl, by decide +kernel, by decide +kernel⟩
set_option maxHeartbeats 4000000 in
theorem ok__law_next (T : Tx K mg) : Cal P w K mg base CX0 False "_law_next" 1 D__law_next := by
  have hnd := sc__law_next.nd
  obtain ⟨f, fd, Fn, hm, hk, hb⟩ := T.d__law_next.ex
  exact ⟨f, fd, _, fn0 Fn sc__law_next (fun cdv A outer s H E hr => (SS.cons (S1.asg 0 (EF.bin mod_ok (EF.bin add_ok (EF.var 0) EF.int) EF.int) hnd)
  (SS.one (S1.ret (EF.bin mod_ok (EF.bin add_ok (EF.bin add_ok (EF.bin mul_ok (EF.var 0) (EF.var 0)) (EF.bin mul_ok EF.int (EF.var 0))) EF.int) EF.int))))), hm, hk, hb⟩
theorem sc__law_drawn_plan : FnScope N__law_drawn_plan [("seed" : Str), ("deep" : Str), ("most" : Str)] (defScope st__law_drawn_plan) := ⟨rfl, rfl, rfl, by decide +kernel, rfl, by decide +kernel, by decide +kernel⟩
set_option maxHeartbeats 4000000 in
theorem ok__law_drawn_plan (T : Tx K mg) : ∀ n, Cal P w K mg base CX0 False "_law_drawn_plan" (n + 1) (D__law_drawn_plan n)
  | 0 => Cal.zero T.d__law_drawn_plan
  | n + 1 => by
    have K__law_next := ok__law_next (P := P) (w := w) (base := base) T
    have hnd := sc__law_drawn_plan.nd
    have hrec := ok__law_drawn_plan T n
    obtain ⟨f, fd, Fn, hm, hk, hb⟩ := T.d__law_drawn_plan.ex
    exact ⟨f, fd, _, fn0 Fn sc__law_drawn_plan (fun cdv A outer s H E hr => (SS.cons (S1.asg 0 (EF.ofO (EO.call0 K__law_next (hr.mono (by omega)) (EA.cons (EF.var 0) EA.nil))) hnd)
  (SS.cons (S1.ite (EW.t (ET.or (ET.c (EC.op (eq_ok (hu64 hr)) (EF.var 1) EF.int)) (ET.or1 (ET.c (EC.op (eq_ok (hu64 hr)) (EF.bin mod_ok (EF.bin fdiv_ok (EF.var 0) EF.int) EF.int) EF.int)))))
  (SS.one (S1.ret (EF.tup (EA.cons EF.str (EA.cons (EF.bin mod_ok (EF.bin fdiv_ok (EF.var 0) EF.int) (EF.var 2)) EA.nil)))))
  SS.nil)
  (SS.cons (S1.asg 3 (EF.ofO (EO.call0 hrec hr (EA.cons (EF.ofO (EO.call0 K__law_next (hr.mono (by omega)) (EA.cons (EF.bin add_ok (EF.var 0) EF.int) EA.nil))) (EA.cons (EF.bin sub_ok (EF.var 1) EF.int) (EA.cons (EF.var 2) EA.nil))))) hnd)
  (SS.one (S1.ret (EF.tup (EA.cons EF.str (EA.cons (EF.bin mod_ok (EF.bin fdiv_ok (EF.var 0) EF.int) (EF.var 2)) (EA.cons (EF.var 3) (EA.cons (EF.ofO (EO.call0 hrec hr (EA.cons (EF.ofO (EO.call0 K__law_next (hr.mono (by omega)) (EA.cons (EF.bin add_ok (EF.var 0) EF.int) EA.nil))) (EA.cons (EF.bin sub_ok (EF.var 1) EF.int) (EA.cons (EF.var 2) EA.nil))))) EA.nil))))))))))), hm, hk, hb⟩
theorem sc__law_kind : FnScope N__law_kind [("e" : Str)] (defScope st__law_kind) := ⟨rfl, rfl, rfl, by decide +kernel, rfl, by decide +kernel, by decide +kernel⟩
set_option maxHeartbeats 4000000 in
theorem ok__law_kind (T : Tx K mg) {xc : Str} (hxc : xc ∈ exT) : CalH P w K mg base "_law_kind" 1 xc (fun a => D__law_kind a xc) := by
  have hnd := sc__law_kind.nd
  obtain ⟨f, fd, Fn, hm, hk, hb⟩ := T.d__law_kind.ex
  exact ⟨f, fd, _, hot0 (F := fun a => B__law_kind a xc) Fn sc__law_kind (fun cdv A outer s H E q hr cau => (SS.cons (S1.ite (EW.t (ET.or (ET.not (ET.v (EF.isXv cau hxc T.exk T.b_isinstance T.b_ValueError (EF.var 0)))) (ET.or1 (ET.not (ET.v (EF.isX (d := ("PastError" : Str)) cau hxc T.exk T.b_isinstance (EF.var 0) (by decide)))))))
  (SS.one (S1.ret EF.str))
  SS.nil)
  (SS.cons (S1.asg 1 (EF.lst (EA.cons (EF.isX (d := ("BadWeb" : Str)) cau hxc T.exk T.b_isinstance (EF.var 0) (by decide)) (EA.cons (EF.isX (d := ("NoVersion" : Str)) cau hxc T.exk T.b_isinstance (EF.var 0) (by decide)) (EA.cons (EF.isX (d := ("NoAsking" : Str)) cau hxc T.exk T.b_isinstance (EF.var 0) (by decide)) EA.nil)))) hnd)
  (SS.cons (S1.asg 2 (EF.lst (EA.cons (EF.isX (d := ("BadRow" : Str)) cau hxc T.exk T.b_isinstance (EF.var 0) (by decide)) (EA.cons (EF.isX (d := ("NoFit" : Str)) cau hxc T.exk T.b_isinstance (EF.var 0) (by decide)) (EA.cons (EF.isX (d := ("BadTree" : Str)) cau hxc T.exk T.b_isinstance (EF.var 0) (by decide)) (EA.cons (EF.isX (d := ("Clash" : Str)) cau hxc T.exk T.b_isinstance (EF.var 0) (by decide)) EA.nil))))) hnd)
  (SS.cons (S1.ite (EW.t (ET.or (ET.c (EC.op (ne_ok (hu64h hr)) (EF.meth cnt_ok PySem.F.plainAttrs_list PySem.F.slot_list_count PySem.F.type_list_count (EF.var 1) (EA.cons EF.bl EA.nil)) EF.int)) (ET.or1 (ET.c (EC.op (in_ok (hu64h hr)) EF.bl (EF.var 2))))))
  (SS.one (S1.ret EF.str))
  SS.nil)
  (SS.one (S1.ret (EF.ix (hu64h hr) (EF.lst (EA.cons EF.str (EA.cons EF.str (EA.cons EF.str EA.nil)))) (EF.meth idx_ok PySem.F.plainAttrs_list PySem.F.slot_list_index PySem.F.type_list_index (EF.var 1) (EA.cons EF.bl EA.nil)))))))))), hm, hk, hb⟩
theorem sc__law_tried : FnScope N__law_tried [("told" : Str), ("answers" : Str)] (defScope st__law_tried) := ⟨rfl, rfl, rfl, by decide +kernel, rfl, by decide +kernel, by decide +kernel⟩
set_option maxHeartbeats 4000000 in
theorem ok__law_tried (T : Tx K mg) : Cal P w K mg base CX0 False "_law_tried" 2 D__law_tried := by
  have K_led := ok_led (P := P) (w := w) (base := base) T
  have K__law_kind := fun {xc : Str} (hxc : xc ∈ exT) => ok__law_kind (P := P) (w := w) (base := base) T hxc
  have hnd := sc__law_tried.nd
  obtain ⟨f, fd, Fn, hm, hk, hb⟩ := T.d__law_tried.ex
  exact ⟨f, fd, _, fn0 Fn sc__law_tried (fun cdv A outer s H E hr => (SS.one (S1.try T.exk takesN0 (fun W0 pn0 xe0 tk0 hp0 => (SS.one (S1.ret (EF.tup (EA.cons EF.str (EA.cons (EF.ofO (EO.call K_led (hr.mono (by decide)) (fun σ => L2N.passAt tk0 σ) (fun _ => trivial) (EA.cons (EF.var 0) (EA.cons (EF.var 1) EA.nil)))) EA.nil))))))
  (Cls.as (i := 2) (by decide) rfl (by decide) hnd rfl rfl (by decide) (fun a pn xc hxc cau => (SS.one (S1.ret (EF.tup (EA.cons (EF.ofO (EO.hot (K__law_kind hxc) (roomS (hr.mono (by decide))) rfl cau (EA.cons (EF.var 2) EA.nil))) (EA.cons EF.non EA.nil))))))
  Cls.nil)))), hm, hk, hb⟩
theorem sc__law_length : FnScope N__law_length [("told" : Str)] (defScope st__law_length) := ⟨rfl, rfl, rfl, by decide +kernel, rfl, by decide +kernel, by decide +kernel⟩
set_option maxHeartbeats 4000000 in
theorem ok__law_length (T : Tx K mg) : ∀ n, Cal P w K mg base CX0 False "_law_length" (n + 0) (D__law_length n)
  | 0 => Cal.zero T.d__law_length
  | n + 1 => by
    have hnd := sc__law_length.nd
    have hrec := ok__law_length T n
    obtain ⟨f, fd, Fn, hm, hk, hb⟩ := T.d__law_length.ex
    exact ⟨f, fd, _, fn0 Fn sc__law_length (fun cdv A outer s H E hr => (SS.cons (S1.ite (ET.c (EC.op (eq_ok (hu64 hr)) (EF.ix (hu64 hr) (EF.var 0) EF.int) EF.str))
  (SS.one (S1.ret EF.int))
  SS.nil)
  (SS.one (S1.ret (EF.bin add_ok EF.int (EF.callB (max2_ok rfl) T.b_max (by decide +kernel) (EA.cons (EF.ofO (EO.call0 hrec hr (EA.cons (EF.ix (hu64 hr) (EF.var 0) EF.int) EA.nil))) (EA.cons (EF.ofO (EO.call0 hrec hr (EA.cons (EF.ix (hu64 hr) (EF.var 0) EF.int) EA.nil))) EA.nil)))))))), hm, hk, hb⟩
theorem sc_law : FnScope N_law [("script" : Str)] (defScope st_law) := ⟨rfl, rfl, rfl, by decide +kernel, rfl, by decide +kernel, by decide +kernel⟩
set_option maxHeartbeats 4000000 in
theorem fn_law {f : Addr} {fd : FuncData} (T : Tx K mg) (Fn : Fun K "law" "law" st_law f fd) : FnOk P w K mg base CX0 19 f fd ["script"] (spP K mg False D_law) := by
  have K__law_drawn_plan := ok__law_drawn_plan (P := P) (w := w) (base := base) T 16
  have K__law_cell_at := ok__law_cell_at (P := P) (w := w) (base := base) T
  have K__law_tried := ok__law_tried (P := P) (w := w) (base := base) T
  have K_length := ok_length (P := P) (w := w) (base := base) T 16
  have K__law_whole := ok__law_whole (P := P) (w := w) (base := base) T
  have K__law_length := ok__law_length (P := P) (w := w) (base := base) T 16
  have hnd := sc_law.nd
  exact fn0 Fn sc_law (fun cdv A outer s H E hr => (SS.cons (S1.asg 1 (EF.ofO (EO.call0 K__law_drawn_plan (hr.mono (by decide)) (EA.cons (EF.ofO (EO.call0 K__law_cell_at (hr.mono (by decide)) (EA.cons (EF.var 0) (EA.cons EF.int EA.nil)))) (EA.cons EF.int (EA.cons EF.int EA.nil))))) hnd)
  (SS.cons (S1.asg 2 (EF.ofO (EO.call0 K__law_cell_at (hr.mono (by decide)) (EA.cons (EF.var 0) (EA.cons EF.int EA.nil)))) hnd)
  (SS.cons (S1.lc (own := [(("k" : Str), 11)]) 3 rfl hnd (EI.rg1 T.b_range (EA.cons (EF.bin mod_ok (EF.ofO (EO.call0 K__law_cell_at (hr.mono (by decide)) (EA.cons (EF.var 0) (EA.cons EF.int EA.nil)))) EF.int) EA.nil)) (blkOk_by (N := N_law) (sc := defScope st_law) (by decide +kernel)) (fun _ _ _ _ _ => (EG.nm 11 hnd)) (fun _ _ _ _ _ => ETs.nil) (fun _ _ _ _ _ => (EO.ofF (EF.cmp (EC.op (eq_ok (hu64 hr)) (EF.bin mod_ok (EF.bin fdiv_ok (EF.var 2) (EF.ix (hu64 hr) (EF.lst (EA.cons EF.int (EA.cons EF.int (EA.cons EF.int (EA.cons EF.int (EA.cons EF.int EA.nil)))))) (EF.var 11))) EF.int) EF.int)))) (sw_true rfl rfl rfl (by decide +kernel)))
  (SS.fz 3 (SS.cons (S1.asg 4 (EF.var 1) hnd)
  (SS.cons (S1.asg 5 EF.str hnd)
  (SS.cons (S1.asg 6 EF.int hnd)
  (SS.cons (S1.for (vs := [7]) PassesOwn.never rfl (EI.sq (EF.var 3)) (EG.nm 7 hnd)
  (SS.cons (S1.ite (ET.c (EC.op (eq_ok (hu64 hr)) (EF.ix (hu64 hr) (EF.var 4) EF.int) EF.str))
  (SS.one (S1.asg 5 EF.str hnd))
  (SS.cons (S1.asg 6 (EF.bin add_ok (EF.var 6) EF.int) hnd)
  (SS.one (S1.asg 4 (EF.ix (hu64 hr) (EF.var 4) (EF.bin add_ok EF.int (EF.callT int1_ok T.b_int (by decide +kernel) (EA.cons (EF.var 7) EA.nil)))) hnd))))
  (SS.fg 7 SS.nil)))
  (SS.fg 7 (SS.cons (S1.ite (ET.c (EC.op (eq_ok (hu64 hr)) (EF.bin mod_ok (EF.ofO (EO.call0 K__law_cell_at (hr.mono (by decide)) (EA.cons (EF.var 0) (EA.cons EF.int EA.nil)))) EF.int) EF.int))
  (SS.cons (S1.asg 3 (EF.sli (EF.var 3) EP'.p0 (EP'.p1 (EF.var 6))) hnd)
  (SS.one (S1.asg 5 EF.str hnd)))
  SS.nil)
  (SS.cons (S1.asg 8 (EF.ofO (EO.callT list_ok T.b_list (by decide +kernel) (EA.cons (EF.var 3) EA.nil))) hnd)
  (SS.cons (S1.asg 9 (EF.ofO (EO.call0 K__law_tried (hr.mono (by decide)) (EA.cons (EF.var 1) (EA.cons (EF.var 8) EA.nil)))) hnd)
  (SS.cons (S1.ite (EW.t (ET.or (ET.c (EC.op (ne_ok (hu64 hr)) (EF.var 8) (EF.var 3))) (ET.or1 (ET.c (EC.op (ne_ok (hu64 hr)) (EF.ix (hu64 hr) (EF.var 9) EF.int) (EF.var 5))))))
  (SS.one (S1.ret EF.bl))
  SS.nil)
  (SS.cons (S1.ite (EW.t (ET.and (ET.c (EC.op (eq_ok (hu64 hr)) (EF.var 5) EF.str)) (ET.and1 (ET.c (EC.op (ne_ok (hu64 hr)) (EF.ix (hu64 hr) (EF.var 9) EF.int) (EF.var 4))))))
  (SS.one (S1.ret EF.bl))
  SS.nil)
  (SS.cons (S1.asg 10 (EF.ofO (EO.call0 K_length (hr.mono (by decide)) (EA.cons (EF.var 1) EA.nil))) hnd)
  (SS.cons (S1.ite (EW.t (ET.or (ET.not (ET.v (EF.ofO (EO.call0 K__law_whole (hr.mono (by decide)) (EA.cons (EF.var 10) EA.nil))))) (ET.or1 (ET.c (EC.op (ne_ok (hu64 hr)) (EF.var 10) (EF.ofO (EO.call0 K__law_length (hr.mono (by decide)) (EA.cons (EF.var 1) EA.nil))))))))
  (SS.one (S1.ret EF.bl))
  SS.nil)
  (SS.one (S1.ret (EF.or (EF.cmp (EC.op (eq_ok (hu64 hr)) (EF.var 5) EF.str)) (EF.one (EF.cmp (EC.op (le_ok (hu64 hr)) (EF.bin add_ok (EF.ofO (EO.call0 K_length (hr.mono (by decide)) (EA.cons (EF.var 4) EA.nil))) (EF.callB len_ok T.b_len (by decide +kernel) (EA.cons (EF.var 3) EA.nil))) (EF.var 10))))))))))))))))))))))))
end
def fnl : List He.DefD := [dD "led" st_led, dD "length" st_length, dD "_law_cell_at" st__law_cell_at, dD "_law_whole" st__law_whole, dD "_law_next" st__law_next, dD "_law_drawn_plan" st__law_drawn_plan, dD "_law_kind" st__law_kind, dD "_law_tried" st__law_tried, dD "_law_length" st__law_length, dD "law" st_law]
def fal : List He.Fa := [.glo "led", .glo "length", .glo "_law_cell_at", .glo "_law_whole", .glo "_law_next", .glo "_law_drawn_plan", .glo "_law_kind", .glo "_law_tried", .glo "_law_length", .glo "law", .free "ValueError", .free "bool", .free "int", .free "isinstance", .free "len", .free "list", .free "max", .free "range", .glo "NoAsking", .exc "NoAsking"]
abbrev Rw : PySem.W.OpenRow := PySem.W.OpenLaw.row PySem.Challenge.rw_pasthall_k47_led
abbrev hk : PySem.W.Hook := hookF 4 (ttF fal exT exS) fnl
def ob (s : PySem.W.SharedT) : He.AlD := obsFG 4 (ttF fal exT exS) fnl (HandSHeadRun.getT s)
theorem ob_eq (s : PySem.W.SharedT) : ob s = hk.obs s.abs := obsFG_eq (HandSHeadRun.getT_eq s)
def lo : List PySem.Str := (["PastError", "BadRow", "NoFit", "BadTree", "BadWeb", "NoVersion", "NoAsking", "Clash", "led", "length", "_law_cell_at", "_law_whole", "_law_next", "_law_drawn_plan", "_law_kind", "_law_tried", "_law_length"] : List PySem.Str)
set_option maxHeartbeats 0 in
theorem run_top (w : World) : HandSHeadRun.RunEq Rw (PySem.W.view Rw.prog [20]) hk ob 9000 lo w := by
  intro os
  kernel_rfl
set_option maxHeartbeats 8000000 in
theorem tx_of {K : PySem.W.Frag} {h : Heap} {mg : Str → Option Value} (X : K.In h) (G : h.Ns mainGlobals mg) (c : SaysF (ttF fal exT exS) fnl K) : Tx K mg where
  b_ValueError := He.free_ok X G (ttF_fact c.tests 10 (f := .free "ValueError") rfl)
  b_bool := He.free_ok X G (ttF_fact c.tests 11 (f := .free "bool") rfl)
  b_int := He.free_ok X G (ttF_fact c.tests 12 (f := .free "int") rfl)
  b_isinstance := He.free_ok X G (ttF_fact c.tests 13 (f := .free "isinstance") rfl)
  b_len := He.free_ok X G (ttF_fact c.tests 14 (f := .free "len") rfl)
  b_list := He.free_ok X G (ttF_fact c.tests 15 (f := .free "list") rfl)
  b_max := He.free_ok X G (ttF_fact c.tests 16 (f := .free "max") rfl)
  b_range := He.free_ok X G (ttF_fact c.tests 17 (f := .free "range") rfl)
  exk := exkB_ok X G (ttF_exk c.tests)
  r_NoAsking := rz_ok X G (ttF_fact c.tests 18 (f := .glo "NoAsking") rfl) (ttF_fact c.tests 19 (f := .exc "NoAsking") rfl)
  d_led := by
    obtain ⟨fd, F⟩ := c.def_ 0 (d := dD "led" st_led) rfl
    exact Dn.ofD X G F (ttF_fact c.tests 0 (f := .glo "led") rfl) (fun _ _ _ _ _ _ us hl => match us, hl with | [_, _], _ => rfl)
  d_length := by
    obtain ⟨fd, F⟩ := c.def_ 1 (d := dD "length" st_length) rfl
    exact Dn.ofD X G F (ttF_fact c.tests 1 (f := .glo "length") rfl) (fun _ _ _ _ _ _ us hl => match us, hl with | [_], _ => rfl)
  d__law_cell_at := by
    obtain ⟨fd, F⟩ := c.def_ 2 (d := dD "_law_cell_at" st__law_cell_at) rfl
    exact Dn.ofD X G F (ttF_fact c.tests 2 (f := .glo "_law_cell_at") rfl) (fun _ _ _ _ _ _ us hl => match us, hl with | [_, _], _ => rfl)
  d__law_whole := by
    obtain ⟨fd, F⟩ := c.def_ 3 (d := dD "_law_whole" st__law_whole) rfl
    exact Dn.ofD X G F (ttF_fact c.tests 3 (f := .glo "_law_whole") rfl) (fun _ _ _ _ _ _ us hl => match us, hl with | [_], _ => rfl)
  d__law_next := by
    obtain ⟨fd, F⟩ := c.def_ 4 (d := dD "_law_next" st__law_next) rfl
    exact Dn.ofD X G F (ttF_fact c.tests 4 (f := .glo "_law_next") rfl) (fun _ _ _ _ _ _ us hl => match us, hl with | [_], _ => rfl)
  d__law_drawn_plan := by
    obtain ⟨fd, F⟩ := c.def_ 5 (d := dD "_law_drawn_plan" st__law_drawn_plan) rfl
    exact Dn.ofD X G F (ttF_fact c.tests 5 (f := .glo "_law_drawn_plan") rfl) (fun _ _ _ _ _ _ us hl => match us, hl with | [_, _, _], _ => rfl)
  d__law_kind := by
    obtain ⟨fd, F⟩ := c.def_ 6 (d := dD "_law_kind" st__law_kind) rfl
    exact Dn.ofD X G F (ttF_fact c.tests 6 (f := .glo "_law_kind") rfl) (fun _ _ _ _ _ _ us hl => match us, hl with | [_], _ => rfl)
  d__law_tried := by
    obtain ⟨fd, F⟩ := c.def_ 7 (d := dD "_law_tried" st__law_tried) rfl
    exact Dn.ofD X G F (ttF_fact c.tests 7 (f := .glo "_law_tried") rfl) (fun _ _ _ _ _ _ us hl => match us, hl with | [_, _], _ => rfl)
  d__law_length := by
    obtain ⟨fd, F⟩ := c.def_ 8 (d := dD "_law_length" st__law_length) rfl
    exact Dn.ofD X G F (ttF_fact c.tests 8 (f := .glo "_law_length") rfl) (fun _ _ _ _ _ _ us hl => match us, hl with | [_], _ => rfl)
  d_law := by
    obtain ⟨fd, F⟩ := c.def_ 9 (d := dD "law" st_law) rfl
    exact Dn.ofD X G F (ttF_fact c.tests 9 (f := .glo "law") rfl) (fun _ _ _ _ _ _ us hl => match us, hl with | [_], _ => rfl)
theorem law_ends (hF : ∀ ns : List Int, ns.length ≤ 63 → D_law [.scr ns] = .ok (.d (.bl true))) {P : Program} {w : World} {K : PySem.W.Frag} {h : Heap} {mg : Str → Option Value} {fa : Addr} (X : K.In h) (G : h.Ns mainGlobals mg) (hfa : mg "law" = some (.ref fa)) (c : SaysF (ttF fal exT exS) fnl K) :
    ∃ fd : FuncData, (∀ (s : Shared) (v : Value), BindsTo s fd ⟨[v], []⟩ [("script", v)]) ∧ ∀ base : Heap, K.In base → base.Ns mainGlobals mg → FnOk P w K mg base CX0 19 fa fd ["script"] (spLaw K) := by
  obtain ⟨fd, F⟩ := c.def_ 9 (d := dD "law" st_law) rfl
  have e := hfa.symm.trans (He.glo_ok X G (ttF_fact c.tests 9 (f := .glo "law") rfl))
  cases e
  have T := tx_of X G c
  have b := FunD.bindsA (ps := ["script"]) F fun _ _ _ _ _ _ us hl => match us, hl with | [_], _ => rfl
  exact ⟨fd, fun s v => b s [v] rfl, fun base _ _ => law_fn (fn_law T (fun_ofD F)) hF⟩
end FL
open PySem PySem.W PySem.Calls PyProof.Rows
set_option maxHeartbeats 0 in
theorem PySem.Challenge.cw_pasthall_k47_led_holds : PySem.Challenge.rw_pasthall_k47_led.Holds := by
  w_on; o_law
  refine HandSHeadRun.head_any (r := FL.Rw) (q := view FL.Rw.prog [20]) (H := FL.hk) (ob := FL.ob) (M := 9000) (loose := FL.lo) (d := HandSHeadRun.topDef FL.Rw.prog 20) (kwd := []) FL.ob_eq
    (by kernel_rfl) (fun s => by kernel_rfl) FL.run_top (by kernel_rfl) (by kernel_rfl) (by kernel_rfl) (by rfl) (by first | assumption | decide +kernel) (by decide +kernel) ⟨rfl, rfl, rfl, rfl, rfl, by decide +kernel⟩ ?hw ?hc
  case hw => w_witness2
  case hc =>
    refine L2.walk_ofE (l := PySem.Challenge.rw_pasthall_k47_led) (n := 63) (k := 19) (x := "script") (CX := L2.CX0) rfl (by decide) (by kernel_rfl) ⟨rfl, by decide, by decide⟩ ?F (fun _ _ _ _ z => z)
    intro w mg fa h Y G hmg0
    obtain ⟨K, KX, c⟩ := Y
    have hmg : mg ("law" : PySem.Str) = some (.ref fa) := by
      have e : (HandSHeadRun.topDef FL.Rw.prog 20).name = ("law" : PySem.Str) := by kernel_rfl
      rw [← e]
      exact hmg0
    obtain ⟨fd, hb, hF⟩ := FL.law_ends FL.law_true (P := (PySem.Challenge.rw_pasthall_k47_led).prog) (w := w) KX G hmg c
    exact ⟨K, fd, FL.spLaw K, KX, hb, fun H a ns hl _ hS => ⟨a, ns, rfl, hS, hl, fun _ => rfl⟩, hF⟩
