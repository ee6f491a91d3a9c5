import PyProof.Rows.All
import HandS.Comp
import HandS.Dict
import HandS.Words
import HandS.Iter
import HandS.Text
import HandS.More
import HandS.Conv
import HandS.Zip
import HandS.WordsExc
import HandS.WordsDict
import HandS.Wide
import HandS.IsInst
import HandS.ExcCtx
import HandS.ExcIs
import HandS.HotCalls
import KE.DataCmp
import HandS.TupAny
import HandS.SetFor
import HandS.Strs
import HandS.SortInts
import HandS.TryMany
import HandS.TupLe
import HandS.SortRule
import HandS.Small
import KE.KStateDown
import HandS.Defaults
import HandS.Head0
import HandS.Head1
import HandS.Head2
import HandS.HeadEnd
import HandS.HeadHook1
import HandS.HeadHook2
import HandS.Style
import HandS.Rev
import HandS.Exc
import KE.SortData
import KE.DataMinMax
import HandS.SortKw
import HandS.Flt
import KE.DataFind
import HandS.Deep
import PyProof.Rows.NestShow
import KE.KEqNest
import HandS.NoneIn
import KE.KRevSl
import HandS.DictTup
import KE.KDictSum
import HandS.TupSets
import HandS.ExcInit
import HandS.ExcField
import KE.KExcIs
import PyProof.DictUpdate
import HandS.Replace
import KE.KIntText
import PyProof.Rows.StrIntSpec
import HandS.Codes
import PyProof.ListStr
import PySem.Challenge.RW_pasthall_k33_merged_and_settled
set_option Elab.async false
set_option linter.all false
set_option autoImplicit false
set_option maxRecDepth 100000
set_option maxHeartbeats 4000000
namespace FL
open PySem PySem.Spec PyProof.Rows L2
inductive D where
 | non | bl (b : Bool) | int (i : Int) | str (z : Str)
 | lst (xs : List D) | tup (xs : List D)
 | dK (ks : List Key) (xs : List D) | dT (ks : List (List Key)) (xs : List D)
 | ins (C : Str) (ns : List Str) (xs : List D)
 | scr (ns : List Int)
 | exn (a : Addr)
 | exq (a dd : Addr) (x : D)
 deriving Inhabited
inductive OT where
 | d (x : D)
 | lst (ts : List OT) | tup (ts : List OT)
 | dK (ks : List Key) (ts : List OT) | dT (ks : List (List Key)) (ts : List OT)
 | lk (ks : List Key) (ts : List OT)
 | ins (C : Str) (ns : List Str) (ts : List OT)
 deriving Inhabited
structure Exn where
 c : Str
 p : Option D := none
inductive Res (α : Type) where
 | ok (a : α) | ex (c : Exn) | bad
def Res.bind {α β : Type} (r : Res α) (f : α → Res β) : Res β := match r with
 | .ok a => f a | .ex c => .ex c | .bad => .bad
def Res.map {α β : Type} (f : α → β) (r : Res α) : Res β := r.bind fun a => .ok (f a)
@[simp] theorem Res.bind_ok {α β : Type} (a : α) (f : α → Res β) : (Res.ok a).bind f = f a := rfl
@[simp] theorem Res.bind_ex {α β : Type} (c : Exn) (f : α → Res β) : (Res.ex c : Res α).bind f = .ex c := rfl
@[simp] theorem Res.bind_bad {α β : Type} (f : α → Res β) : (Res.bad : Res α).bind f = .bad := rfl
mutual
def fz : OT → D
 | .d x => x
 | .lst ts => .lst (fzs ts)
 | .tup ts => .tup (fzs ts)
 | .dK ks ts => .dK ks (fzs ts)
 | .lk ks ts => .dK ks (fzs ts)
 | .dT ks ts => .dT ks (fzs ts)
 | .ins C ns ts => .ins C ns (fzs ts)
def fzs : List OT → List D
 | [] => []
 | t :: ts => fz t :: fzs ts
end
theorem fzs_eq : ∀ ts : List OT, fzs ts = ts.map fz
 | [] => rfl
 | t :: ts => by rw [fzs, fzs_eq ts]; rfl
theorem fzs_len (ts : List OT) : (fzs ts).length = ts.length := by rw [fzs_eq, List.length_map]
section
variable (K : PySem.W.Frag) (mg : Str → Option Value)
mutual
def R (G : Hp) : D → V → Prop
 | .non, v => v = .non
 | .bl b, v => v = .bl b
 | .int i, v => v = .int i
 | .str z, v => v = .str z ∧ z.length ≤ sizeLine ∧ PyData.strOk z = true
 | .lst ds, v => ∃ a vs, v = .ref a ∧ ds.length ≤ sizeLine ∧ G a = some (.lst vs) ∧ Rs G ds vs
 | .tup ds, v => ∃ a vs, v = .ref a ∧ ds.length ≤ sizeLine ∧ G a = some (.tup vs) ∧ Rs G ds vs
 | .dK ks ds, v => ∃ a vs, v = .ref a ∧ ks.length = ds.length ∧ Rd G a (.dK (ks.zip vs)) ∧ Rs G ds vs
 | .dT ks ds, v => ∃ a vs, v = .ref a ∧ ks.length = ds.length ∧ Rd G a (.dT (ks.zip vs)) ∧ Rs G ds vs
 | .ins C ns ds, v => ∃ a ca dx vs, v = .ref a ∧ mg C = some (.ref ca) ∧ ns.length = ds.length ∧ G a = some (.ins ca dx (ns.zip vs)) ∧ Rs G ds vs
 | .scr ns, v => ∃ a, v = .ref a ∧ SqL K G a (ns.map V.int)
 | .exn a, v => v = .ref a
 | .exq a dd x, v => ∃ w, v = .ref a ∧ G dd = some (.xd [(("paths" : Str), w)]) ∧ R G x w
def Rs (G : Hp) : List D → List V → Prop
 | [], vs => vs = []
 | d :: ds, vs => ∃ v r, vs = v :: r ∧ R G d v ∧ Rs G ds r
end
mutual
def RO (G H : Hp) : OT → V → List Addr → Prop
 | .d x, v, fp => fp = [] ∧ R K mg G x v
 | .lst ts, v, fp => ∃ a vs fs, v = .ref a ∧ fp = a :: fs ∧ ts.length ≤ sizeLine ∧ H a = some (.lst vs) ∧ ROs G H ts vs fs
 | .tup ts, v, fp => ∃ a vs fs, v = .ref a ∧ fp = a :: fs ∧ ts.length ≤ sizeLine ∧ H a = some (.tup vs) ∧ ROs G H ts vs fs
 | .dK ks ts, v, fp => ∃ a vs fs, v = .ref a ∧ fp = a :: fs ∧ ks.length = ts.length ∧ H a = some (.dK (ks.zip vs)) ∧ ROs G H ts vs fs
 | .lk ks ts, v, fp => ∃ a vs, v = .ref a ∧ ks.length = ts.length ∧ Rd G a (.dK (ks.zip vs)) ∧ ROs G H ts vs fp
 | .dT ks ts, v, fp => ∃ a vs fs, v = .ref a ∧ fp = a :: fs ∧ ks.length = ts.length ∧ H a = some (.dT (ks.zip vs)) ∧ ROs G H ts vs fs
 | .ins C ns ts, v, fp => ∃ a ca dx vs fs, v = .ref a ∧ mg C = some (.ref ca) ∧ fp = a :: fs ∧ ns.length = ts.length ∧ H a = some (.ins ca dx (ns.zip vs)) ∧ ROs G H ts vs fs
def ROs (G H : Hp) : List OT → List V → List Addr → Prop
 | [], vs, fp => vs = [] ∧ fp = []
 | t :: ts, vs, fp => ∃ v r f1 f2, vs = v :: r ∧ fp = f1 ++ f2 ∧ RO G H t v f1 ∧ ROs G H ts r f2
end
end
section
variable {K : PySem.W.Frag} {mg : Str → Option Value} {G G' H H' : Hp}
theorem Rd.mono {a : Addr} {u : HO} (g : Same G G') (h : Rd G a u) : Rd G' a u := by
 rcases h with h | ⟨o, h⟩
 ·exact .inl (g _ _ h)
 ·exact .inr ⟨o, g _ _ h⟩
mutual
theorem R.mono (g : Same G G') : ∀ {d : D} {v : V}, R K mg G d v → R K mg G' d v
 | .non, _, h => h
 | .bl _, _, h => h
 | .int _, _, h => h
 | .str _, _, h => h
 | .lst _, _, ⟨a, vs, e, l, h, r⟩ => ⟨a, vs, e, l, g _ _ h, Rs.mono g r⟩
 | .tup _, _, ⟨a, vs, e, l, h, r⟩ => ⟨a, vs, e, l, g _ _ h, Rs.mono g r⟩
 | .dK _ _, _, ⟨a, vs, e, l, h, r⟩ => ⟨a, vs, e, l, Rd.mono g h, Rs.mono g r⟩
 | .dT _ _, _, ⟨a, vs, e, l, h, r⟩ => ⟨a, vs, e, l, Rd.mono g h, Rs.mono g r⟩
 | .ins _ _ _, _, ⟨a, ca, dx, vs, e, c, l, h, r⟩ => ⟨a, ca, dx, vs, e, c, l, g _ _ h, Rs.mono g r⟩
 | .scr _, _, ⟨a, e, h⟩ => ⟨a, e, g.seq h⟩
 | .exn _, _, h => h
 | .exq _ _ _, _, ⟨w, e, h, r⟩ => ⟨w, e, g _ _ h, R.mono g r⟩
theorem Rs.mono (g : Same G G') : ∀ {ds : List D} {vs : List V}, Rs K mg G ds vs → Rs K mg G' ds vs
 | [], _, h => h
 | _ :: _, _, ⟨v, r, e, h, t⟩ => ⟨v, r, e, R.mono g h, Rs.mono g t⟩
end
theorem Rs.len : ∀ {ds : List D} {vs : List V}, Rs K mg G ds vs → vs.length = ds.length
 | [], _, h => by rw [h]; rfl
 | _ :: _, _, ⟨v, r, e, h, t⟩ => by rw [e, List.length_cons, List.length_cons, Rs.len t]
theorem Rs.nil : Rs K mg G [] [] := rfl
theorem Rs.cons {d : D} {v : V} {ds : List D} {vs : List V} (h : R K mg G d v) (t : Rs K mg G ds vs) : Rs K mg G (d :: ds) (v :: vs) := ⟨v, vs, rfl, h, t⟩
theorem Rs.get : ∀ {ds : List D} {vs : List V} {i : Nat} {d : D}, Rs K mg G ds vs → ds[i]? = some d → ∃ v, vs[i]? = some v ∧ R K mg G d v
 | [], _, _, _, _, h => by simp at h
 | d :: ds, _, 0, x, ⟨v, r, e, h, t⟩, q => by
  subst e
  simp at q
  subst q
  exact ⟨v, rfl, h⟩
 | d :: ds, _, i + 1, x, ⟨v, r, e, h, t⟩, q => by
  subst e
  simp at q
  obtain ⟨u, a, b⟩ := Rs.get t q
  exact ⟨u, by simpa using a, b⟩
theorem Rs.append : ∀ {ds es : List D} {vs us : List V}, Rs K mg G ds vs → Rs K mg G es us → Rs K mg G (ds ++ es) (vs ++ us)
 | [], _, _, _, h, q => by rw [h]; exact q
 | _ :: _, _, _, _, ⟨v, r, e, h, t⟩, q => by rw [e]; exact ⟨v, _, rfl, h, Rs.append t q⟩
theorem Rs.take : ∀ {ds : List D} {vs : List V} (n : Nat), Rs K mg G ds vs → Rs K mg G (ds.take n) (vs.take n)
 | _, _, 0, _ => by rw [List.take_zero, List.take_zero]; exact rfl
 | [], _, n + 1, h => by rw [h]; rfl
 | _ :: _, _, n + 1, ⟨v, r, e, h, t⟩ => by rw [e]; exact ⟨v, _, rfl, h, Rs.take n t⟩
theorem Rs.drop : ∀ {ds : List D} {vs : List V} (n : Nat), Rs K mg G ds vs → Rs K mg G (ds.drop n) (vs.drop n)
 | _, _, 0, h => h
 | [], _, n + 1, h => by rw [h]; rfl
 | _ :: _, _, n + 1, ⟨v, r, e, h, t⟩ => by rw [e]; exact Rs.drop n t
mutual
theorem RO.frame (g : Same G G') : ∀ {t : OT} {v : V} {fp : List Addr}, (∀ p ∈ fp, H' p = H p) → RO K mg G H t v fp → RO K mg G' H' t v fp
 | .d _, _, _, _, ⟨e, h⟩ => ⟨e, h.mono g⟩
 | .lst _, _, fp, f, ⟨a, vs, fs, e, e2, l, h, r⟩ => ⟨a, vs, fs, e, e2, l, by rw [f a (by rw [e2]; exact List.mem_cons_self)]; exact h, ROs.frame g (fun p hp => f p (by rw [e2]; exact List.mem_cons_of_mem _ hp)) r⟩
 | .tup _, _, fp, f, ⟨a, vs, fs, e, e2, l, h, r⟩ => ⟨a, vs, fs, e, e2, l, by rw [f a (by rw [e2]; exact List.mem_cons_self)]; exact h, ROs.frame g (fun p hp => f p (by rw [e2]; exact List.mem_cons_of_mem _ hp)) r⟩
 | .dK _ _, _, fp, f, ⟨a, vs, fs, e, e2, l, h, r⟩ => ⟨a, vs, fs, e, e2, l, by rw [f a (by rw [e2]; exact List.mem_cons_self)]; exact h, ROs.frame g (fun p hp => f p (by rw [e2]; exact List.mem_cons_of_mem _ hp)) r⟩
 | .lk _ _, _, fp, f, ⟨a, vs, e, l, h, r⟩ => ⟨a, vs, e, l, Rd.mono g h, ROs.frame g f r⟩
 | .dT _ _, _, fp, f, ⟨a, vs, fs, e, e2, l, h, r⟩ => ⟨a, vs, fs, e, e2, l, by rw [f a (by rw [e2]; exact List.mem_cons_self)]; exact h, ROs.frame g (fun p hp => f p (by rw [e2]; exact List.mem_cons_of_mem _ hp)) r⟩
 | .ins _ _ _, _, fp, f, ⟨a, ca, dx, vs, fs, e, c, e2, l, h, r⟩ => ⟨a, ca, dx, vs, fs, e, c, e2, l, by rw [f a (by rw [e2]; exact List.mem_cons_self)]; exact h, ROs.frame g (fun p hp => f p (by rw [e2]; exact List.mem_cons_of_mem _ hp)) r⟩
theorem ROs.frame (g : Same G G') : ∀ {ts : List OT} {vs : List V} {fp : List Addr}, (∀ p ∈ fp, H' p = H p) → ROs K mg G H ts vs fp → ROs K mg G' H' ts vs fp
 | [], _, _, _, h => h
 | _ :: _, _, _, f, ⟨v, r, f1, f2, e, e2, h, t⟩ => ⟨v, r, f1, f2, e, e2, RO.frame g (fun p hp => f p (by rw [e2]; exact List.mem_append_left _ hp)) h, ROs.frame g (fun p hp => f p (by rw [e2]; exact List.mem_append_right _ hp)) t⟩
end
mutual
theorem RO.fz (g : Same G G') : ∀ {t : OT} {v : V} {fp : List Addr}, (∀ p ∈ fp, G' p = H p) → RO K mg G H t v fp → R K mg G' (FL.fz t) v
 | .d _, _, _, _, ⟨e, h⟩ => h.mono g
 | .lst _, _, fp, f, ⟨a, vs, fs, e, e2, l, h, r⟩ => ⟨a, vs, e, by rw [fzs_len]; exact l, by rw [f a (by rw [e2]; exact List.mem_cons_self)]; exact h, ROs.fzs g (fun p hp => f p (by rw [e2]; exact List.mem_cons_of_mem _ hp)) r⟩
 | .tup _, _, fp, f, ⟨a, vs, fs, e, e2, l, h, r⟩ => ⟨a, vs, e, by rw [fzs_len]; exact l, by rw [f a (by rw [e2]; exact List.mem_cons_self)]; exact h, ROs.fzs g (fun p hp => f p (by rw [e2]; exact List.mem_cons_of_mem _ hp)) r⟩
 | .dK _ _, _, fp, f, ⟨a, vs, fs, e, e2, l, h, r⟩ => ⟨a, vs, e, by rw [fzs_len]; exact l, .inl (by rw [f a (by rw [e2]; exact List.mem_cons_self)]; exact h), ROs.fzs g (fun p hp => f p (by rw [e2]; exact List.mem_cons_of_mem _ hp)) r⟩
 | .lk _ _, _, fp, f, ⟨a, vs, e, l, h, r⟩ => ⟨a, vs, e, by rw [fzs_len]; exact l, Rd.mono g h, ROs.fzs g f r⟩
 | .dT _ _, _, fp, f, ⟨a, vs, fs, e, e2, l, h, r⟩ => ⟨a, vs, e, by rw [fzs_len]; exact l, .inl (by rw [f a (by rw [e2]; exact List.mem_cons_self)]; exact h), ROs.fzs g (fun p hp => f p (by rw [e2]; exact List.mem_cons_of_mem _ hp)) r⟩
 | .ins _ _ _, _, fp, f, ⟨a, ca, dx, vs, fs, e, c, e2, l, h, r⟩ => ⟨a, ca, dx, vs, e, c, by rw [fzs_len]; exact l, by rw [f a (by rw [e2]; exact List.mem_cons_self)]; exact h, ROs.fzs g (fun p hp => f p (by rw [e2]; exact List.mem_cons_of_mem _ hp)) r⟩
theorem ROs.fzs (g : Same G G') : ∀ {ts : List OT} {vs : List V} {fp : List Addr}, (∀ p ∈ fp, G' p = H p) → ROs K mg G H ts vs fp → Rs K mg G' (FL.fzs ts) vs
 | [], _, _, _, h => h.1
 | _ :: _, _, _, f, ⟨v, r, f1, f2, e, e2, h, t⟩ => ⟨v, r, e, RO.fz g (fun p hp => f p (by rw [e2]; exact List.mem_append_left _ hp)) h, ROs.fzs g (fun p hp => f p (by rw [e2]; exact List.mem_append_right _ hp)) t⟩
end
mutual
theorem RO.live : ∀ {t : OT} {v : V} {fp : List Addr}, RO K mg G H t v fp → ∀ p ∈ fp, H p ≠ none
 | .d _, _, _, ⟨e, h⟩, p, hp => by rw [e] at hp; exact absurd hp (by simp)
 | .lst _, _, fp, ⟨a, vs, fs, e, e2, l, h, r⟩, p, hp => by
  rw [e2] at hp
  rcases List.mem_cons.mp hp with rfl | hp
  ·rw [h]; exact fun z => nomatch z
  ·exact ROs.live r p hp
 | .tup _, _, fp, ⟨a, vs, fs, e, e2, l, h, r⟩, p, hp => by
  rw [e2] at hp
  rcases List.mem_cons.mp hp with rfl | hp
  ·rw [h]; exact fun z => nomatch z
  ·exact ROs.live r p hp
 | .dK _ _, _, fp, ⟨a, vs, fs, e, e2, l, h, r⟩, p, hp => by
  rw [e2] at hp
  rcases List.mem_cons.mp hp with rfl | hp
  ·rw [h]; exact fun z => nomatch z
  ·exact ROs.live r p hp
 | .dT _ _, _, fp, ⟨a, vs, fs, e, e2, l, h, r⟩, p, hp => by
  rw [e2] at hp
  rcases List.mem_cons.mp hp with rfl | hp
  ·rw [h]; exact fun z => nomatch z
  ·exact ROs.live r p hp
 | .lk _ _, _, fp, ⟨a, vs, e, l, h, r⟩, p, hp => ROs.live r p hp
 | .ins _ _ _, _, fp, ⟨a, ca, dx, vs, fs, e, c, e2, l, h, r⟩, p, hp => by
  rw [e2] at hp
  rcases List.mem_cons.mp hp with rfl | hp
  ·rw [h]; exact fun z => nomatch z
  ·exact ROs.live r p hp
theorem ROs.live : ∀ {ts : List OT} {vs : List V} {fp : List Addr}, ROs K mg G H ts vs fp → ∀ p ∈ fp, H p ≠ none
 | [], _, _, h, p, hp => by rw [h.2] at hp; exact absurd hp (by simp)
 | _ :: _, _, _, ⟨v, r, f1, f2, e, e2, h, t⟩, p, hp => by
  rw [e2] at hp
  rcases List.mem_append.mp hp with hp | hp
  ·exact RO.live h p hp
  ·exact ROs.live t p hp
end
theorem ROs.len : ∀ {ts : List OT} {vs : List V} {fp : List Addr}, ROs K mg G H ts vs fp → vs.length = ts.length
 | [], _, _, h => by rw [h.1]; rfl
 | _ :: _, _, _, ⟨v, r, f1, f2, e, e2, h, t⟩ => by rw [e, List.length_cons, List.length_cons, ROs.len t]
end
mutual
def imm : D → Bool
 | .non => true
 | .bl _ => true
 | .int _ => true
 | .str _ => true
 | .tup xs => imms xs
 | _ => false
def imms : List D → Bool
 | [] => true
 | d :: ds => imm d && imms ds
end
mutual
def immT : OT → Bool
 | .d x => imm x
 | .lst ts => immTs ts
 | .tup ts => immTs ts
 | .dK _ ts => immTs ts
 | .dT _ ts => immTs ts
 | .lk _ _ => false
 | .ins _ _ ts => immTs ts
def immTs : List OT → Bool
 | [] => true
 | t :: ts => immT t && immTs ts
end
mutual
def noT : OT → Bool
 | .d _ => true
 | .lst ts => noTs ts
 | .tup _ => false
 | .dK _ ts => noTs ts
 | .dT _ ts => noTs ts
 | .lk _ ts => noTs ts
 | .ins _ _ ts => noTs ts
def noTs : List OT → Bool
 | [] => true
 | t :: ts => noT t && noTs ts
end
section
variable {K : PySem.W.Frag} {mg : Str → Option Value} {G G' H : Hp}
mutual
theorem R.imm (g : ∀ a vs, G a = some (.tup vs) → G' a = some (.tup vs)) : ∀ {d : D} {v : V}, imm d = true → R K mg G d v → R K mg G' d v
 | .non, _, _, h => h
 | .bl _, _, _, h => h
 | .int _, _, _, h => h
 | .str _, _, _, h => h
 | .tup xs, _, f, ⟨a, vs, e, l, h, r⟩ => ⟨a, vs, e, l, g _ _ h, Rs.imm g (by simpa [FL.imm] using f) r⟩
 | .lst _, _, f, _ => by simp [FL.imm] at f
 | .dK _ _, _, f, _ => by simp [FL.imm] at f
 | .dT _ _, _, f, _ => by simp [FL.imm] at f
 | .ins _ _ _, _, f, _ => by simp [FL.imm] at f
 | .scr _, _, f, _ => by simp [FL.imm] at f
 | .exn _, _, f, _ => by simp [FL.imm] at f
 | .exq _ _ _, _, f, _ => by simp [FL.imm] at f
theorem Rs.imm (g : ∀ a vs, G a = some (.tup vs) → G' a = some (.tup vs)) : ∀ {ds : List D} {vs : List V}, imms ds = true → Rs K mg G ds vs → Rs K mg G' ds vs
 | [], _, _, h => h
 | _ :: _, _, f, ⟨v, r, e, h, t⟩ => by
  simp only [imms, Bool.and_eq_true] at f
  exact ⟨v, r, e, R.imm g f.1 h, Rs.imm g f.2 t⟩
end
mutual
theorem RO.imm (g : ∀ a vs, G a = some (.tup vs) → G' a = some (.tup vs)) : ∀ {t : OT} {v : V} {fp : List Addr}, immT t = true → RO K mg G H t v fp → RO K mg G' H t v fp
 | .d x, _, _, f, ⟨e, h⟩ => ⟨e, R.imm g (by simpa [immT] using f) h⟩
 | .lst ts, _, _, f, ⟨a, vs, fs, e, e2, l, h, r⟩ => ⟨a, vs, fs, e, e2, l, h, ROs.imm g (by simpa [immT] using f) r⟩
 | .tup ts, _, _, f, ⟨a, vs, fs, e, e2, l, h, r⟩ => ⟨a, vs, fs, e, e2, l, h, ROs.imm g (by simpa [immT] using f) r⟩
 | .dK _ ts, _, _, f, ⟨a, vs, fs, e, e2, l, h, r⟩ => ⟨a, vs, fs, e, e2, l, h, ROs.imm g (by simpa [immT] using f) r⟩
 | .dT _ ts, _, _, f, ⟨a, vs, fs, e, e2, l, h, r⟩ => ⟨a, vs, fs, e, e2, l, h, ROs.imm g (by simpa [immT] using f) r⟩
 | .lk _ ts, _, _, f, _ => by simp [immT] at f
 | .ins _ _ ts, _, _, f, ⟨a, ca, dx, vs, fs, e, c, e2, l, h, r⟩ => ⟨a, ca, dx, vs, fs, e, c, e2, l, h, ROs.imm g (by simpa [immT] using f) r⟩
theorem ROs.imm (g : ∀ a vs, G a = some (.tup vs) → G' a = some (.tup vs)) : ∀ {ts : List OT} {vs : List V} {fp : List Addr}, immTs ts = true → ROs K mg G H ts vs fp → ROs K mg G' H ts vs fp
 | [], _, _, _, h => h
 | t :: ts, _, _, f, ⟨v, r, f1, f2, e, e2, h, q⟩ => by
  simp only [immTs, Bool.and_eq_true] at f
  exact ⟨v, r, f1, f2, e, e2, RO.imm g f.1 h, ROs.imm g f.2 q⟩
end
mutual
theorem RO.noT : ∀ {t : OT} {v : V} {fp : List Addr}, noT t = true → RO K mg G H t v fp → ∀ p ∈ fp, ∀ vs, H p ≠ some (.tup vs)
 | .d x, _, _, _, ⟨e, _⟩, p, hp, _ => by rw [e] at hp; exact absurd hp (by simp)
 | .lst ts, _, _, f, ⟨a, vs, fs, e, e2, l, h, r⟩, p, hp, us => by
  rw [e2] at hp
  rcases List.mem_cons.mp hp with rfl | hp
  ·rw [h]; exact fun z => nomatch z
  ·exact ROs.noT (by simpa [FL.noT] using f) r p hp us
 | .tup ts, _, _, f, _, _, _, _ => by simp [FL.noT] at f
 | .dK _ ts, _, _, f, ⟨a, vs, fs, e, e2, l, h, r⟩, p, hp, us => by
  rw [e2] at hp
  rcases List.mem_cons.mp hp with rfl | hp
  ·rw [h]; exact fun z => nomatch z
  ·exact ROs.noT (by simpa [FL.noT] using f) r p hp us
 | .dT _ ts, _, _, f, ⟨a, vs, fs, e, e2, l, h, r⟩, p, hp, us => by
  rw [e2] at hp
  rcases List.mem_cons.mp hp with rfl | hp
  ·rw [h]; exact fun z => nomatch z
  ·exact ROs.noT (by simpa [FL.noT] using f) r p hp us
 | .lk _ ts, _, _, f, ⟨a, vs, e, l, h, r⟩, p, hp, us => ROs.noT (by simpa [FL.noT] using f) r p hp us
 | .ins _ _ ts, _, _, f, ⟨a, ca, dx, vs, fs, e, c, e2, l, h, r⟩, p, hp, us => by
  rw [e2] at hp
  rcases List.mem_cons.mp hp with rfl | hp
  ·rw [h]; exact fun z => nomatch z
  ·exact ROs.noT (by simpa [FL.noT] using f) r p hp us
theorem ROs.noT : ∀ {ts : List OT} {vs : List V} {fp : List Addr}, noTs ts = true → ROs K mg G H ts vs fp → ∀ p ∈ fp, ∀ vs, H p ≠ some (.tup vs)
 | [], _, _, _, h, p, hp, _ => by rw [h.2] at hp; exact absurd hp (by simp)
 | _ :: _, _, _, f, ⟨v, r, f1, f2, e, e2, h, t⟩, p, hp, us => by
  simp only [noTs, Bool.and_eq_true] at f
  rw [e2] at hp
  rcases List.mem_append.mp hp with hp | hp
  ·exact RO.noT f.1 h p hp us
  ·exact ROs.noT f.2 t p hp us
end
end
end FL
namespace FL
open PySem PySem.Spec PyProof.Rows L2
abbrev En := List (Option OT)
def NG (G H : Hp) (p : Addr) : Prop := G p = none ∨ ∃ vs, H p = some (.tup vs)
def KG (G' G H : Hp) (p : Addr) : Prop := G' p = G p ∨ ∃ vs, H p = some (.tup vs)
theorem NG.no {G H : Hp} {p : Addr} {o : HO} (h : NG G H p) (e : H p = some o) (n : ∀ vs, o ≠ .tup vs := by exact fun _ => nofun) : G p = none := by
 rcases h with h | ⟨vs, h⟩
 ·exact h
 ·rw [e] at h; cases h; exact absurd rfl (n vs)
theorem NG.upd {G H : Hp} {a p : Addr} {o : HO} (h : NG G H p) (n : ∀ vs, H a ≠ some (.tup vs)) : NG G (upd H a o) p := by
 rcases h with h | ⟨vs, h⟩
 ·exact .inl h
 ·exact .inr ⟨vs, by rw [upd_ne (fun (z : p = a) => n vs (by rw [← z]; exact h))]; exact h⟩
theorem ntO {H : Hp} {p : Addr} {o : HO} (e : H p = some o) (n : ∀ vs, o ≠ .tup vs := by exact fun _ => nofun) : ∀ vs, H p ≠ some (.tup vs) := fun vs z => by rw [e] at z; cases z; exact absurd rfl (n vs)
theorem NG.upd' {G H : Hp} {a p : Addr} {o : HO} (h : NG G H p) (n : H a = none) : NG G (L2.upd H a o) p := h.upd fun vs e => by rw [n] at e; cases e
theorem NG.mono {G H H' : Hp} {p : Addr} (h : NG G H p) (s : Same H H') : NG G H' p := h.imp id fun ⟨vs, e⟩ => ⟨vs, s _ _ e⟩
theorem NG.at {G H H' : Hp} {p : Addr} (h : NG G H p) (e : H' p = H p) : NG G H' p := h.imp id fun ⟨vs, z⟩ => ⟨vs, e.trans z⟩
theorem KG.at {G G' H H' : Hp} {p : Addr} (h : KG G' G H p) (e : H' p = H p) : KG G' G H' p := h.imp id fun ⟨vs, z⟩ => ⟨vs, e.trans z⟩
theorem KG.refl {G H : Hp} {p : Addr} : KG G G H p := .inl rfl
theorem KG.symm {G G' H : Hp} {p : Addr} (h : KG G' G H p) : KG G G' H p := h.imp Eq.symm id
theorem KG.trans {G G' G2 H : Hp} {p : Addr} (a : KG G2 G' H p) (b : KG G' G H p) : KG G2 G H p := by
 rcases a with a | a
 ·exact b.imp a.trans id
 ·exact .inr a
theorem KG.ng {G G' H H' : Hp} {p : Addr} (k : KG G' G H p) (h : NG G H p) (e : H' p = H p) : NG G' H' p := by
 rcases k with k | ⟨vs, k⟩
 ·exact NG.at (G := G') (h.imp k.trans id) e
 ·exact .inr ⟨vs, e.trans k⟩
structure Stp (G H G' H' : Hp) : Prop where
 hh : Same H H'
 gg : Same G G'
 gh : Same G' H'
 old : ∀ p, H p ≠ none → KG G' G H p
section
variable {G H G1 H1 G2 H2 : Hp}
theorem Stp.refl (g : Same G H) : Stp G H G H := ⟨Same.refl _, Same.refl _, g, fun _ _ => .refl⟩
theorem live_of {p : Addr} (h : Same H H1) (l : H p ≠ none) : H1 p ≠ none := by
 cases e : H p with
 | none => exact absurd e l
 | some o => rw [h p o e]; exact fun z => nomatch z
theorem same_at {p : Addr} (h : Same H H1) (l : H p ≠ none) : H1 p = H p := by
 cases e : H p with
 | none => exact absurd e l
 | some o => exact h p o e
theorem Stp.trans (a : Stp G H G1 H1) (b : Stp G1 H1 G2 H2) : Stp G H G2 H2 :=
 ⟨a.hh.trans b.hh, a.gg.trans b.gg, b.gh, fun p h => ((b.old p (live_of a.hh h)).at (same_at a.hh h).symm).trans (a.old p h)⟩
theorem same_new {p : Addr} {o : HO} (h : H p = none) : Same H (upd H p o) := fun b x e => by
 rw [upd_ne (ne_of_none e h)]; exact e
theorem Stp.new {p : Addr} {o : HO} (g : Same G H) (h : H p = none) : Stp G H (upd G p o) (upd H p o) := by
 have gn : G p = none := g.free h
 refine ⟨same_new h, same_new gn, fun b x e => ?_, fun b l => ?_⟩
 ·by_cases hb : b = p
  ·subst hb; rw [upd_same] at e ⊢; exact e
  ·rw [upd_ne hb] at e ⊢; exact g b x e
 ·exact .inl (upd_ne (fun z => l (by rw [z]; exact h)))
theorem Stp.own {p : Addr} {o : HO} (g : Same G H) (h : H p = none) : Stp G H G (upd H p o) :=
 ⟨same_new h, Same.refl _, g.trans (same_new h), fun _ _ => .refl⟩
end
structure Bs where
 O : Hp
 G0 : Hp
 io : List (Nat × V)
section
variable (K : PySem.W.Frag) (mg : Str → Option Value)
structure Slots (B : Bs) (G H : Hp) (σ : L2.St) (ρ : En) (F : Nat → List Addr) : Prop where
 rep : ∀ i t, ρ[i]? = some (some t) → ∃ v, σ[i]? = some (some v) ∧ RO K mg G H t v (F i)
 nd : ∀ i, (F i).Nodup
 at_ : ∀ i p, p ∈ F i → H p ≠ none ∧ NG G H p ∧ B.O p = none
 dj : ∀ i j p, i ≠ j → p ∈ F i → p ∉ F j
structure Gr (B : Bs) (G H : Hp) (σ : L2.St) : Prop where
 gh : Same G H
 oh : Same B.O H
 g0 : Same B.G0 G
 og : ∀ p, B.O p ≠ none → KG G B.G0 B.O p
 io : ∀ q ∈ B.io, σ[q.1]? = some (some q.2)
structure Rep (B : Bs) (G H : Hp) (σ : L2.St) (ρ : En) : Prop where
 g : Gr B G H σ
 len : ρ.length = σ.length
 sl : ∃ F, Slots K mg B G H σ ρ F
structure RepV (B : Bs) (G H : Hp) (σ : L2.St) (ρ : En) (t : OT) (v : V) : Prop where
 g : Gr B G H σ
 len : ρ.length = σ.length
 sl : ∃ F fv, Slots K mg B G H σ ρ F ∧ RO K mg G H t v fv ∧ fv.Nodup ∧ (∀ p ∈ fv, H p ≠ none ∧ NG G H p ∧ B.O p = none) ∧ ∀ i p, p ∈ fv → p ∉ F i
def RX (G H : Hp) (x : Exn) (cls : Value) (dd : Option Addr) : Prop :=
 mg x.c = some cls ∧ match x.p with
  | none => dd = none
  | some d => ∃ a v, dd = some a ∧ G a = some (.xd [(("paths" : Str), v)]) ∧ R K mg G d v
end
section
variable {K : PySem.W.Frag} {mg : Str → Option Value} {B : Bs} {G H G' H' : Hp} {σ : L2.St} {ρ : En}
theorem Gr.step (r : Gr B G H σ) (s : Stp G H G' H') : Gr B G' H' σ :=
 ⟨s.gh, r.oh.trans s.hh, r.g0.trans s.gg, fun p h => ((s.old p (live_of r.oh h)).at (same_at r.oh h).symm).trans (r.og p h), r.io⟩
theorem Slots.step {F : Nat → List Addr} (r : Slots K mg B G H σ ρ F) (s : Stp G H G' H') : Slots K mg B G' H' σ ρ F :=
 ⟨fun i t e => by
  obtain ⟨v, a, b⟩ := r.rep i t e
  exact ⟨v, a, b.frame s.gg fun p hp => same_at s.hh (r.at_ i p hp).1⟩, r.nd, fun i p hp => by
  obtain ⟨a, b, c⟩ := r.at_ i p hp
  exact ⟨live_of s.hh a, (s.old p a).ng b (same_at s.hh a), c⟩, r.dj⟩
theorem Rep.step (r : Rep K mg B G H σ ρ) (s : Stp G H G' H') : Rep K mg B G' H' σ ρ := by
 obtain ⟨F, f⟩ := r.sl
 exact ⟨r.g.step s, r.len, F, f.step s⟩
theorem Rep.gh (r : Rep K mg B G H σ ρ) : Same G H := r.g.gh
theorem Rep.slot {i : Nat} {t : OT} (r : Rep K mg B G H σ ρ) (e : ρ[i]? = some (some t)) : ∃ v fp, σ[i]? = some (some v) ∧ RO K mg G H t v fp := by
 obtain ⟨F, f⟩ := r.sl
 obtain ⟨v, a, b⟩ := f.rep i t e
 exact ⟨v, F i, a, b⟩
theorem Rep.frozen {i : Nat} {d : D} (r : Rep K mg B G H σ ρ) (e : ρ[i]? = some (some (.d d))) : ∃ v, σ[i]? = some (some v) ∧ R K mg G d v := by
 obtain ⟨v, fp, a, b, c⟩ := r.slot e
 exact ⟨v, a, c⟩
theorem Rep.fresh {t : OT} {v : V} {fp : List Addr} (r : Rep K mg B G H σ ρ) (s : Stp G H G' H') (h : RO K mg G' H' t v fp) (nd : fp.Nodup) (fr : ∀ p ∈ fp, H p = none ∧ NG G' H' p) : RepV K mg B G' H' σ ρ t v := by
 obtain ⟨F, f⟩ := r.sl
 refine ⟨r.g.step s, r.len, F, fp, f.step s, h, nd, fun p hp => ⟨h.live p hp, (fr p hp).2, r.g.oh.free (fr p hp).1⟩, fun i p hp hi => (f.at_ i p hi).1 (fr p hp).1⟩
theorem Rep.val {d : D} {v : V} (r : Rep K mg B G H σ ρ) (h : R K mg G d v) : RepV K mg B G H σ ρ (.d d) v :=
 r.fresh (Stp.refl r.gh) (t := .d d) (fp := []) ⟨rfl, h⟩ List.nodup_nil (fun p hp => absurd hp (by simp))
theorem RepV.rep {t : OT} {v : V} (r : RepV K mg B G H σ ρ t v) : Rep K mg B G H σ ρ := by
 obtain ⟨F, fv, f, _⟩ := r.sl
 exact ⟨r.g, r.len, F, f⟩
theorem get_set {α : Type} {l : List α} {i j : Nat} {x y : α} (h : (l.set i x)[j]? = some y) : (i = j ∧ i < l.length ∧ x = y) ∨ (i ≠ j ∧ l[j]? = some y) := by
 by_cases e : i = j
 ·subst e
  by_cases hl : i < l.length
  ·rw [List.getElem?_set_self hl] at h
   exact .inl ⟨rfl, hl, Option.some.inj h⟩
  ·rw [List.getElem?_eq_none (by simpa using hl)] at h; cases h
 ·rw [List.getElem?_set_ne e] at h
  exact .inr ⟨e, h⟩
theorem RepV.set {t : OT} {v : V} {i : Nat} (r : RepV K mg B G H σ ρ t v) (hi : ∀ q ∈ B.io, q.1 ≠ i) : Rep K mg B G H (σ.set i (some v)) (ρ.set i (some t)) := by
 obtain ⟨F, fv, f, h, nd, at_, dj⟩ := r.sl
 refine ⟨⟨r.g.gh, r.g.oh, r.g.g0, r.g.og, fun q hq => ?_⟩, by rw [List.length_set, List.length_set]; exact r.len, fun j => if j = i then fv else F j, fun j u e => ?_, fun j => ?_, fun j p hp => ?_, fun j k p ne hp hk => ?_⟩
 ·rw [List.getElem?_set_ne (fun z => hi q hq z.symm)]; exact r.g.io q hq
 ·rcases get_set e with ⟨e1, hl, e2⟩ | ⟨ne, e⟩
  ·subst e1; cases e2
   refine ⟨v, by rw [List.getElem?_set_self (by rw [← r.len]; exact hl)], ?_⟩
   rw [if_pos rfl]; exact h
  ·obtain ⟨w, a, b⟩ := f.rep j u e
   refine ⟨w, by rw [List.getElem?_set_ne ne]; exact a, ?_⟩
   rw [if_neg (fun z => ne z.symm)]; exact b
 ·(try dsimp only); split
  ·exact nd
  ·exact f.nd j
 ·(try dsimp only at hp); split at hp
  ·exact at_ p hp
  ·exact f.at_ j p hp
 ·(try dsimp only at hp hk)
  by_cases h1 : j = i
  ·by_cases h2 : k = i
   ·exact ne (h1.trans h2.symm)
   ·rw [if_pos h1] at hp; rw [if_neg h2] at hk
    exact dj k p hp hk
  ·rw [if_neg h1] at hp
   by_cases h2 : k = i
   ·rw [if_pos h2] at hk
    exact dj j p hk hp
   ·rw [if_neg h2] at hk
    exact f.dj j k p ne hp hk
theorem Slots.forget {F : Nat → List Addr} (f : Slots K mg B G H σ ρ F) (i : Nat) : Slots K mg B G H σ (ρ.set i none) F :=
 ⟨fun j u e => by
  rcases get_set e with ⟨_, _, e2⟩ | ⟨ne, e⟩
  ·cases e2
  ·exact f.rep j u e, f.nd, f.at_, f.dj⟩
theorem Rep.forget (r : Rep K mg B G H σ ρ) (i : Nat) : Rep K mg B G H σ (ρ.set i none) := by
 obtain ⟨F, f⟩ := r.sl
 exact ⟨r.g, by rw [List.length_set]; exact r.len, F, f.forget i⟩
theorem Rep.move {i : Nat} {t : OT} (r : Rep K mg B G H σ ρ) (e : ρ[i]? = some (some t)) : ∃ v, σ[i]? = some (some v) ∧ RepV K mg B G H σ (ρ.set i none) t v := by
 obtain ⟨F, f⟩ := r.sl
 obtain ⟨v, a, b⟩ := f.rep i t e
 refine ⟨v, a, r.g, by rw [List.length_set]; exact r.len, fun j => if j = i then [] else F j, F i, ⟨fun j u e => ?_, fun j => ?_, fun j p hp => ?_, fun j k p ne hp hk => ?_⟩, b, f.nd i, f.at_ i, fun j p hp hj => ?_⟩
 ·rcases get_set e with ⟨_, _, e2⟩ | ⟨ne, e⟩
  ·cases e2
  ·rw [if_neg (fun z => ne z.symm)]; exact f.rep j u e
 ·(try dsimp only); split
  ·exact List.nodup_nil
  ·exact f.nd j
 ·(try dsimp only at hp); split at hp
  ·exact absurd hp (by simp)
  ·exact f.at_ j p hp
 ·(try dsimp only at hp hk)
  split at hp
  ·exact absurd hp (by simp)
  ·split at hk
   ·exact absurd hk (by simp)
   ·exact f.dj j k p ne hp hk
 ·(try dsimp only at hj); split at hj
  ·exact absurd hj (by simp)
  ·rename_i ne; exact f.dj i j p (fun z => ne z.symm) hp hj
def frz (ρ : En) : En := ρ.map (Option.map fun t => .d (fz t))
def frzAt (i : Nat) (ρ : En) : En := match ρ[i]? with
 | some (some t) => ρ.set i (some (.d (fz t)))
 | _ => ρ
theorem Rep.fzAt (r : Rep K mg B G H σ ρ) (i : Nat) : ∃ G', Rep K mg B G' H σ (frzAt i ρ) := by
 unfold frzAt
 split
 ·rename_i t e
  obtain ⟨F, f⟩ := r.sl
  obtain ⟨v, a, b⟩ := f.rep i t e
  have g1 : Same G (fun p => if p ∈ F i then H p else G p) := fun p o h => by
   (try dsimp only); split
   ·exact r.g.gh p o h
   ·exact h
  refine ⟨fun p => if p ∈ F i then H p else G p, ⟨fun p o h => ?_, r.g.oh, r.g.g0.trans g1, fun p h => ?_, r.g.io⟩, by rw [List.length_set]; exact r.len, fun j => if j = i then [] else F j, fun j u e => ?_, fun j => ?_, fun j p hp => ?_, fun j k p ne hp hk => ?_⟩
  ·(try dsimp only at h); split at h
   ·exact h
   ·exact r.g.gh p o h
  ·rcases r.g.og p h with z | z
   ·refine .inl ?_
    (try dsimp only); split
    ·rename_i hp; exact absurd (f.at_ i p hp).2.2 h
    ·exact z
   ·exact .inr z
  ·rcases get_set e with ⟨e1, hl, e2⟩ | ⟨ne, e⟩
   ·subst e1; cases e2
    refine ⟨v, a, ?_⟩
    rw [if_pos rfl]
    exact ⟨rfl, b.fz g1 fun p hp => if_pos hp⟩
   ·obtain ⟨w, a, b⟩ := f.rep j u e
    rw [if_neg (fun z => ne z.symm)]
    exact ⟨w, a, b.frame g1 fun p _ => rfl⟩
  ·(try dsimp only); split
   ·exact List.nodup_nil
   ·exact f.nd j
  ·(try dsimp only at hp); split at hp
   ·exact absurd hp (by simp)
   ·rename_i ne
    refine ⟨(f.at_ j p hp).1, ?_, (f.at_ j p hp).2.2⟩
    rcases (f.at_ j p hp).2.1 with z | z
    ·refine .inl ?_
     (try dsimp only); rw [if_neg (f.dj j i p ne hp)]; exact z
    ·exact .inr z
  ·(try dsimp only at hp hk)
   split at hp
   ·exact absurd hp (by simp)
   ·split at hk
    ·exact absurd hk (by simp)
    ·exact f.dj j k p ne hp hk
 ·exact ⟨G, r⟩
def noE (_ : En) : Bool := true
open Classical in
theorem Rep.fzAll' (r : Rep K mg B G H σ ρ) : ∃ G', Same G G' ∧ (∀ p, H p = none → G' p = none) ∧ Rep K mg B G' H σ (frz ρ) := by
 obtain ⟨F0, f0⟩ := r.sl
 let F : Nat → List Addr := fun i => if ∃ t, ρ[i]? = some (some t) then F0 i else []
 have f : Slots K mg B G H σ ρ F := by
  refine ⟨fun i t e => ?_, fun i => ?_, fun i p hp => ?_, fun i j p ne hp hq => ?_⟩
  ·obtain ⟨v, a, b⟩ := f0.rep i t e
   exact ⟨v, a, by show RO K mg G H t v (if _ then _ else _); rw [if_pos ⟨t, e⟩]; exact b⟩
  ·show (if _ then _ else _ : List Addr).Nodup
   split
   ·exact f0.nd i
   ·exact List.nodup_nil
  ·change p ∈ (if _ then _ else _ : List Addr) at hp
   split at hp
   ·exact f0.at_ i p hp
   ·cases hp
  ·change p ∈ (if _ then _ else _ : List Addr) at hp
   change p ∈ (if _ then _ else _ : List Addr) at hq
   split at hp
   ·split at hq
    ·exact f0.dj i j p ne hp hq
    ·cases hq
   ·cases hp
 have g1 : Same G (fun p => if ∃ i, p ∈ F i then H p else G p) := fun p o h => by
  (try dsimp only); split
  ·exact r.g.gh p o h
  ·exact h
 refine ⟨fun p => if ∃ i, p ∈ F i then H p else G p, g1, fun p h => ?_, ⟨fun p o h => ?_, r.g.oh, r.g.g0.trans g1, fun p h => ?_, r.g.io⟩, by rw [frz, List.length_map]; exact r.len, fun _ => [], fun j u e => ?_, fun _ => List.nodup_nil, fun j p hp => absurd hp (by simp), fun j k p _ hp => absurd hp (by simp)⟩
 ·(try dsimp only); split
  ·exact h
  ·exact r.g.gh.free h
 ·(try dsimp only at h); split at h
  ·exact h
  ·exact r.g.gh p o h
 ·rcases r.g.og p h with z | z
  ·refine .inl ?_
   (try dsimp only); split
   ·rename_i hp; obtain ⟨i, hp⟩ := hp; exact absurd (f.at_ i p hp).2.2 h
   ·exact z
  ·exact .inr z
 ·rw [frz, List.getElem?_map] at e
  cases e2 : ρ[j]? with
  | none => rw [e2] at e; cases e
  | some q =>
   cases q with
   | none => rw [e2] at e; cases e
   | some t =>
    rw [e2] at e; cases e
    obtain ⟨v, a, b⟩ := f.rep j t e2
    exact ⟨v, a, rfl, b.fz g1 fun p hp => if_pos ⟨j, hp⟩⟩
theorem Rep.fzAll (r : Rep K mg B G H σ ρ) : ∃ G', Same G G' ∧ (∀ p, H p = none → G' p = none) ∧ Rep K mg B G' H σ (frz ρ) := by
 obtain ⟨G', a, b, c⟩ := r.fzAll'
 exact ⟨G', a, b, c⟩
end
end FL
namespace FL
open PySem PySem.Spec PyProof.Rows L2
structure WW where
 on : Prop
 w : WX
section
variable (K : PySem.W.Frag) (mg : Str → Option Value)
def Wr {α β : Type} (rel : Hp → Hp → Hp → α → β → Prop) (W : WW) (σ : L2.St) (G H : Hp) (r : Res α) (k : α → β → Hp → Hp → Prop) : Prop := match r with
 | .ok a => ∀ b G' H', Stp G H G' H' → rel H G' H' a b → k a b G' H'
 | .ex c => W.on ∧ ∀ G' H' cls dd, Stp G H G' H' → RX K mg G' H' c cls dd → W.w cls dd σ H'
 | .bad => False
def relD (_ G' _ : Hp) (d : D) (v : V) : Prop := R K mg G' d v
def relL (_ G' _ : Hp) (d : List D) (v : List V) : Prop := Rs K mg G' d v
def relO (H G' H' : Hp) (t : OT) (v : V) : Prop := ∃ fp, RO K mg G' H' t v fp ∧ fp.Nodup ∧ ∀ p ∈ fp, H p = none ∧ NG G' H' p
def relB (_ _ _ : Hp) (b c : Bool) : Prop := c = b
end
def Later {α β : Type} (rel : Hp → Hp → Hp → α → β → Prop) : Prop := ∀ H H1 G' H' a b, Same H H1 → rel H1 G' H' a b → rel H G' H' a b
section
variable {K : PySem.W.Frag} {mg : Str → Option Value} {W : WW} {σ : L2.St} {G H : Hp} {α β γ δ : Type}
theorem later_D : Later (relD K mg) := fun _ _ _ _ _ _ _ h => h
theorem later_L : Later (relL K mg) := fun _ _ _ _ _ _ _ h => h
theorem later_B : Later relB := fun _ _ _ _ _ _ _ h => h
theorem later_O : Later (relO K mg) := fun _ _ _ _ _ _ s ⟨fp, a, b, c⟩ => ⟨fp, a, b, fun p hp => ⟨s.free (c p hp).1, (c p hp).2⟩⟩
theorem Wr.mono {rel : Hp → Hp → Hp → α → β → Prop} {r : Res α} {k k' : α → β → Hp → Hp → Prop} (h : Wr K mg rel W σ G H r k) (hk : ∀ a b G' H', k a b G' H' → k' a b G' H') : Wr K mg rel W σ G H r k' := by
 cases r with
 | ok a => exact fun b G' H' s q => hk _ _ _ _ (h b G' H' s q)
 | ex c => exact h
 | bad => exact h
theorem Wr.bind {rel : Hp → Hp → Hp → α → β → Prop} {rel2 : Hp → Hp → Hp → γ → δ → Prop} {r : Res α} {g : α → Res γ} {k : γ → δ → Hp → Hp → Prop} (lt : Later rel2) (h : Wr K mg rel2 W σ G H (r.bind g) k) :
  Wr K mg rel W σ G H r fun a b G1 H1 => Stp G H G1 H1 ∧ rel H G1 H1 a b ∧ Wr K mg rel2 W σ G1 H1 (g a) k := by
 cases r with
 | ok a =>
  refine fun b G1 H1 s q => ⟨s, q, ?_⟩
  change Wr K mg rel2 W σ G H (g a) k at h
  cases e : g a with
  | ok c => rw [e] at h; exact fun d G2 H2 s2 q2 => h d G2 H2 (s.trans s2) (lt _ _ _ _ _ _ s.hh q2)
  | ex c => rw [e] at h; exact ⟨h.1, fun G2 H2 cls dd s2 q2 => h.2 G2 H2 cls dd (s.trans s2) q2⟩
  | bad => rw [e] at h; exact h
 | ex c => exact h
 | bad => exact h
theorem Wr.ok {rel : Hp → Hp → Hp → α → β → Prop} {a : α} {k : α → β → Hp → Hp → Prop} {b : β} {G' H' : Hp} (h : Wr K mg rel W σ G H (.ok a) k) (s : Stp G H G' H') (r : rel H G' H' a b) : k a b G' H' := h b G' H' s r
end
section
variable (X : Cx) (W : WW)
def lift {α β : Type} (rel : Hp → Hp → Hp → α → β → Prop) (B : Bs) (f : En → Res α) : L2.St → Hp → (β → Hp → Prop) → Prop := fun σ H Q => ∃ G ρ, Rep X.K X.mg B G H σ ρ ∧ Wr X.K X.mg rel W σ G H (f ρ) fun _ v _ H' => Q v H'
structure EF (e : Expr) (f : En → Res D) : Prop where
 run : ∀ B, PE X e (lift X W (relD X.K X.mg) B f)
structure EO (e : Expr) (f : En → Res OT) : Prop where
 run : ∀ B, PE X e (lift X W (relO X.K X.mg) B f)
structure ET (e : Expr) (f : En → Res Bool) : Prop where
 run : ∀ B, PT X e (lift X W relB B f)
structure EW (e : Expr) (f : En → Res Bool) : Prop where
 run : ∀ B, PW X e (lift X W relB B f)
structure EC (op : CmpOp) (a b : Expr) (f : En → Res D) : Prop where
 run : ∀ B, PC X op a b (lift X W (relD X.K X.mg) B f)
structure EA (es : List Expr) (f : En → Res (List D)) : Prop where
 run : ∀ B, PA X es (lift X W (relL X.K X.mg) B f)
end
theorem PE.mono {X : Cx} {e : Expr} {t t' : TE} (h : PE X e t) (i : ∀ σ H Q, t' σ H Q → t σ H Q) : PE X e t' := ⟨fun pins s σ H Q I q => h.run pins s σ H Q I (i _ _ _ q)⟩
theorem PT.mono {X : Cx} {e : Expr} {t t' : TT} (h : PT X e t) (i : ∀ σ H Q, t' σ H Q → t σ H Q) : PT X e t' := ⟨fun pins s σ H Q I q => h.run pins s σ H Q I (i _ _ _ q)⟩
theorem PW.mono {X : Cx} {e : Expr} {t t' : TT} (h : PW X e t) (i : ∀ σ H Q, t' σ H Q → t σ H Q) : PW X e t' := ⟨fun w pins s σ H Q I q => h.run w pins s σ H Q I (i _ _ _ q)⟩
theorem PC.mono {X : Cx} {op : CmpOp} {a b : Expr} {t t' : TE} (h : PC X op a b t) (i : ∀ σ H Q, t' σ H Q → t σ H Q) : PC X op a b t' := ⟨fun pins s σ H Q I q => h.run pins s σ H Q I (i _ _ _ q)⟩
theorem PA.mono {X : Cx} {es : List Expr} {t t' : TA} (h : PA X es t) (i : ∀ σ H Q, t' σ H Q → t σ H Q) : PA X es t' := ⟨fun p pins s σ H Q I q => h.run p pins s σ H Q I (i _ _ _ q)⟩
theorem PS.mono {X : Cx} {st : Stmt} {t t' : TS} (h : PS X st t) (i : ∀ D σ H, t' D σ H → t D σ H) : PS X st t' := ⟨fun pins s σ H D I q => h.run pins s σ H D I (i _ _ _ q)⟩
theorem PSs.mono {X : Cx} {st : List Stmt} {t t' : TS} (h : PSs X st t) (i : ∀ D σ H, t' D σ H → t D σ H) : PSs X st t' := ⟨fun pins s σ H D I q => h.run pins s σ H D I (i _ _ _ q)⟩
theorem lift.next {X : Cx} {W : WW} {α β γ δ : Type} {rel : Hp → Hp → Hp → α → β → Prop} {rel2 : Hp → Hp → Hp → γ → δ → Prop} {B : Bs} {f : En → Res α} {g : α → En → Res γ} {G H : Hp} {σ : L2.St} {ρ : En} {Q : δ → Hp → Prop} (lt : Later rel2)
  (r : Rep X.K X.mg B G H σ ρ) (h : Wr X.K X.mg rel2 W σ G H ((f ρ).bind fun a => g a ρ) fun _ v _ H' => Q v H') {R : β → Hp → Prop}
  (k : ∀ a b G1 H1, Rep X.K X.mg B G1 H1 σ ρ → Stp G H G1 H1 → rel H G1 H1 a b → Wr X.K X.mg rel2 W σ G1 H1 (g a ρ) (fun _ v _ H' => Q v H') → R b H1) : lift X W rel B f σ H R :=
 ⟨G, ρ, r, (Wr.bind lt h).mono fun a b G1 H1 ⟨s, q, w⟩ => k a b G1 H1 (r.step s) s q w⟩
section
variable {X : Cx} {W : WW} {e a b : Expr} {es : List Expr} {f fa fb : En → Res D} {fs : En → Res (List D)} {pos : Pos}
def v (i : Nat) (ρ : En) : Res D := match ρ[i]? with
 | some (some (.d x)) => .ok x
 | _ => .bad
theorem EF.var (i : Nat) {x : Str} (hN : X.N[i]? = some x := by rfl) (hv : Vis X.env.scope x := by first | exact Or.inl rfl | exact Or.inr (Or.inl rfl) | exact Or.inr (Or.inr rfl)) (hd : (x == ("__debug__" : Str)) = false := by decide)
  (hcd : (x == ("__classdict__" : Str)) = false := by decide) : EF X W (.Name x pos) (v i) := ⟨fun B => PE.mono (pe_var hN hv hd hcd) fun σ H Q ⟨G, ρ, r, h⟩ => by
 unfold v at h
 split at h
 ·rename_i d e
  obtain ⟨u, a, b⟩ := r.frozen e
  exact ⟨u, a, h.ok (Stp.refl r.gh) b⟩
 ·exact h.elim⟩
def c (d : D) (_ : En) : Res D := .ok d
theorem EF.const {d : D} {x : V} (he : PE X e (tC x)) (hr : ∀ G, R X.K X.mg G d x) : EF X W e (c d) := ⟨fun B => PE.mono he fun σ H Q ⟨G, ρ, r, h⟩ => h.ok (Stp.refl r.gh) (hr G)⟩
theorem EF.int {i : Int} {j} : EF X W (.Constant (.int i) j pos) (c (.int i)) := EF.const pe_int fun _ => rfl
theorem EF.bl {b : Bool} {j} : EF X W (.Constant (.bool b) j pos) (c (.bl b)) := EF.const pe_bl fun _ => rfl
theorem EF.non {j} : EF X W (.Constant .none j pos) (c .non) := EF.const pe_non fun _ => rfl
theorem EF.str {z : Str} {j} (h : z.length ≤ sizeLine ∧ PyData.strOk z = true := by decide +kernel) : EF X W (.Constant (.str z) j pos) (c (.str z)) := EF.const pe_str fun _ => ⟨rfl, h⟩
theorem EF.globI {x : Str} {i : Int} {t : Tok} (hm : X.mg x = some (.int i t)) (hg : Gl X x := by rfl) (hd : (x == ("__debug__" : Str)) = false := by decide) : EF X W (.Name x pos) (c (.int i)) := EF.const (x := .int i) (pe_glob hg hm ⟨t, rfl⟩ hd) fun _ => rfl
theorem EF.globS {x : Str} {z : Str} {t : Tok} (hm : X.mg x = some (.str z t)) (h : z.length ≤ sizeLine ∧ PyData.strOk z = true) (hg : Gl X x := by rfl) (hd : (x == ("__debug__" : Str)) = false := by decide) : EF X W (.Name x pos) (c (.str z)) :=
 EF.const (x := .str z) (pe_glob hg hm ⟨t, rfl⟩ hd) fun _ => ⟨rfl, h⟩
theorem RO.dd {K : PySem.W.Frag} {mg : Str → Option Value} {G H : Hp} {d : D} {v : V} (h : R K mg G d v) : RO K mg G H (.d d) v [] := by
 unfold RO
 exact ⟨rfl, h⟩
theorem EO.of_EF (h : EF X W e f) : EO X W e (fun ρ => (f ρ).map .d) := ⟨fun B => PE.mono (h.run B) fun σ H Q ⟨G, ρ, r, h⟩ => lift.next (rel := relD X.K X.mg) (g := fun a _ => .ok (.d a)) later_O r h fun a b G1 H1 r1 s q w =>
 w.ok (Stp.refl r1.gh) ⟨[], RO.dd q, List.nodup_nil, fun p hp => absurd hp (by simp)⟩⟩
theorem freeze {K : PySem.W.Frag} {mg : Str → Option Value} {G H G' H' : Hp} {t : OT} {v : V} (s : Stp G H G' H') (h : relO K mg H G' H' t v) : ∃ G2, Stp G H G2 H' ∧ R K mg G2 (fz t) v ∧ Same G' G2 := by
 obtain ⟨fp, a, b, c⟩ := h
 have g1 : Same G' (fun p => if p ∈ fp then H' p else G' p) := fun p o h => by
  (try dsimp only); split
  ·exact s.gh p o h
  ·exact h
 refine ⟨fun p => if p ∈ fp then H' p else G' p, ⟨s.hh, s.gg.trans g1, fun p o h => ?_, fun p h => ?_⟩, a.fz g1 fun p hp => if_pos hp, g1⟩
 ·(try dsimp only at h); split at h
  ·exact h
  ·exact s.gh p o h
 ·rcases s.old p h with z | z
  ·refine .inl ?_
   (try dsimp only); split
   ·rename_i hp; exact absurd (c p hp).1 h
   ·exact z
  ·exact .inr z
theorem EF.of_EO {f : En → Res OT} (h : EO X W e f) : EF X W e (fun ρ => (f ρ).map fz) := ⟨fun B => PE.mono (h.run B) fun σ H Q ⟨G, ρ, r, h⟩ => ⟨G, ρ, r, by
 change Wr X.K X.mg (relD X.K X.mg) W σ G H ((f ρ).map fz) _ at h
 cases e1 : f ρ with
 | ok t =>
  rw [e1] at h
  intro v G' H' s q
  obtain ⟨G2, s2, r2, _⟩ := freeze s q
  exact h v G2 H' s2 r2
 | ex c => rw [e1] at h; exact h
 | bad => rw [e1] at h; exact h⟩⟩
def flat : D → Bool
 | .non => true | .bl _ => true | .int _ => true | .str _ => true | _ => false
def bor (f : En → Res D) (ρ : En) : Res D := match f (frz ρ) with
 | .ok d => if (flat d || (imm d && noE ρ)) = true then .ok d else .bad
 | .ex x => match x.p with
  | none => .ex x
  | some _ => .bad
 | .bad => .bad
def borG (G0 H G' : Hp) : Hp := fun p => match H p with
 | none => G' p
 | some (.tup _) => G' p
 | some _ => G0 p
theorem bor_tup {G G0 H G' H' : Hp} (s : Stp G H G' H') : ∀ a vs, G' a = some (.tup vs) → borG G0 H G' a = some (.tup vs) := fun a vs h => by
 unfold borG
 cases e : H a with
 | none => exact h
 | some o =>
  have h1 := s.gh _ _ h
  rw [s.hh _ _ e] at h1
  cases h1
  exact h
theorem bor_stp {G G0 H G' H' : Hp} (g : Same G0 H) (hg : Same G0 G) (s : Stp G H G' H') : Stp G0 H (borG G0 H G') H' := by
 have key : ∀ {p o}, H p = some o → (∀ vs, o ≠ .tup vs) → borG G0 H G' p = G0 p := fun {p o} e n => by
  unfold borG; rw [e]
  cases o <;> first | rfl | exact absurd rfl (n _)
 have keyT : ∀ {p vs}, H p = some (.tup vs) → borG G0 H G' p = G' p := fun {p vs} e => by unfold borG; rw [e]
 have dec : ∀ o : HO, (∃ vs, o = .tup vs) ∨ ∀ vs, o ≠ .tup vs := fun o => by
  cases o <;> first | exact .inl ⟨_, rfl⟩ | exact .inr fun _ => nofun
 refine ⟨s.hh, fun p o h => ?_, fun p o h => ?_, fun p h => ?_⟩
 ·rcases dec o with ⟨vs, rfl⟩ | n
  ·rw [keyT (g p _ h)]; exact s.gg _ _ (hg _ _ h)
  ·rw [key (g p o h) n]; exact h
 ·cases e : H p with
  | none =>
   have : borG G0 H G' p = G' p := by unfold borG; rw [e]
   rw [this] at h; exact s.gh p o h
  | some u =>
   rcases dec u with ⟨vs, rfl⟩ | n
   ·rw [keyT e] at h; exact s.gh p o h
   ·rw [key e n] at h; exact s.hh p o (g p o h)
 ·cases e : H p with
  | none => exact absurd e h
  | some u =>
   rcases dec u with ⟨vs, rfl⟩ | n
   ·exact .inr ⟨vs, e⟩
   ·exact .inl (key e n)
theorem R.flat {K : PySem.W.Frag} {mg : Str → Option Value} {G G' : Hp} {d : D} {v : V} (f : FL.flat d = true) (h : R K mg G d v) : R K mg G' d v := by
 cases d <;> first | exact h | cases f
theorem EF.bor (h : EF X W e f) : EF X W e (bor f) := ⟨fun B => PE.mono (h.run B) fun σ H Q ⟨G, ρ, r, h⟩ => by
 obtain ⟨G1, g1, n1, r1⟩ := r.fzAll'
 refine ⟨G1, frz ρ, r1, ?_⟩
 unfold FL.bor at h
 cases e1 : f (frz ρ) with
 | ok d =>
  rw [e1] at h
  dsimp only at h
  split at h
  ·rename_i fd
   rw [Bool.or_eq_true, Bool.and_eq_true] at fd
   exact fun v G' H' s q => h v _ H' (bor_stp r.gh g1 s) (fd.elim (fun fd => R.flat fd q) fun fd => R.imm (bor_tup s) fd.1 q)
  ·exact h.elim
 | ex c =>
  rw [e1] at h
  dsimp only at h
  split at h
  ·rename_i ep
   refine ⟨h.1, fun G' H' cls dd s q => h.2 _ H' cls dd (bor_stp r.gh g1 s) ⟨q.1, ?_⟩⟩
   have q2 := q.2
   rw [ep] at q2 ⊢
   exact q2
  ·exact h.elim
 | bad => rw [e1] at h; exact h⟩
def asB : D → Res Bool
 | .bl b => .ok b
 | _ => .bad
theorem asB_ok {K : PySem.W.Frag} {mg : Str → Option Value} {W : WW} {σ : L2.St} {G H : Hp} {d : D} {x : V} {k : Bool → Bool → Hp → Hp → Prop} (g : Same G H) (q : R K mg G d x) (w : Wr K mg relB W σ G H (asB d) k) : ∃ b, x = .bl b ∧ k b b G H := by
 cases d <;> first | exact w.elim | skip
 exact ⟨_, q, w.ok (Stp.refl g) rfl⟩
theorem ET.val (h : EF X W e f) (he : ∀ whole, isTrue e X.env whole = (do let v ← whole; standAt e.pos; holding [v] (truthy v)) := by intro _; rfl) : ET X W e (fun ρ => (f ρ).bind asB) := ⟨fun B => PT.mono (pt_val (h.run B) he) fun σ H Q ⟨G, ρ, r, h⟩ =>
 lift.next (g := fun a _ => asB a) later_B r h fun a b G1 H1 r1 s q w => by
  obtain ⟨b, e, w⟩ := asB_ok r1.gh q w
  exact ⟨b, e, w⟩⟩
theorem EF.cmp {op : CmpOp} (h : EC X W op a b f) (h1 : behindInMarks op b = false := by first | exact nobehind _ (by decide) (by decide) | rfl) : EF X W (.Compare a [op] [b] pos) f := ⟨fun B => pe_cmp (h.run B) h1⟩
theorem ET.cmp {op : CmpOp} (h : EC X W op a b f) (h1 : behindInMarks op b = false := by first | exact nobehind _ (by decide) (by decide) | rfl) : ET X W (.Compare a [op] [b] pos) (fun ρ => (f ρ).bind asB) := ⟨fun B => PT.mono (pt_cmp (h.run B) h1) fun σ H Q ⟨G, ρ, r, h⟩ =>
 lift.next (g := fun a _ => asB a) later_B r h fun a b G1 H1 r1 s q w => by
  obtain ⟨b, e, w⟩ := asB_ok r1.gh q w
  exact ⟨b, e, w⟩⟩
def andT (f g : En → Res Bool) (ρ : En) : Res Bool := (f ρ).bind fun b => if b = true then g ρ else .ok false
def orT (f g : En → Res Bool) (ρ : En) : Res Bool := (f ρ).bind fun b => if b = true then .ok true else g ρ
def notT (f : En → Res Bool) (ρ : En) : Res Bool := (f ρ).bind fun b => .ok (!b)
section
variable {ta tb : En → Res Bool} {rest : List Expr}
theorem ET.and1 (h : ET X W a ta) : EW X W (.BoolOp .And [a] pos) ta := ⟨fun B => pw_and1 (h.run B)⟩
theorem ET.or1 (h : ET X W a ta) : EW X W (.BoolOp .Or [a] pos) ta := ⟨fun B => pw_or1 (h.run B)⟩
theorem ET.and (h : ET X W a ta) (h2 : EW X W (.BoolOp .And (b :: rest) pos) tb) : EW X W (.BoolOp .And (a :: b :: rest) pos) (andT ta tb) := ⟨fun B => PW.mono (pw_and (h.run B) (h2.run B)) fun σ H Q ⟨G, ρ, r, h⟩ =>
 lift.next (rel := relB) (g := fun b ρ => if b = true then tb ρ else .ok false) later_B r h fun a b G1 H1 r1 s q w => by
  cases q
  cases a with
  | true => exact ⟨G1, ρ, r1, w⟩
  | false => exact w.ok (Stp.refl r1.gh) rfl⟩
theorem ET.or (h : ET X W a ta) (h2 : EW X W (.BoolOp .Or (b :: rest) pos) tb) : EW X W (.BoolOp .Or (a :: b :: rest) pos) (orT ta tb) := ⟨fun B => PW.mono (pw_or (h.run B) (h2.run B)) fun σ H Q ⟨G, ρ, r, h⟩ =>
 lift.next (rel := relB) (g := fun b ρ => if b = true then .ok true else tb ρ) later_B r h fun a b G1 H1 r1 s q w => by
  cases q
  cases a with
  | false => exact ⟨G1, ρ, r1, w⟩
  | true => exact w.ok (Stp.refl r1.gh) rfl⟩
theorem EW.t (h : EW X W e ta) : ET X W e ta := ⟨fun B => (h.run B).pt⟩
theorem ET.not (h : ET X W a ta) : ET X W (.UnaryOp .Not a pos) (notT ta) := ⟨fun B => PT.mono (pt_not (h.run B)) fun σ H Q ⟨G, ρ, r, h⟩ =>
 lift.next (rel := relB) (g := fun b _ => .ok (!b)) later_B r h fun a b G1 H1 r1 s q w => by
  cases q
  exact w.ok (Stp.refl r1.gh) rfl⟩
end
def andD (f g : En → Res D) (ρ : En) : Res D := (f ρ).bind fun d => (asB d).bind fun b => if b = true then g ρ else .ok (.bl false)
def orD (f g : En → Res D) (ρ : En) : Res D := (f ρ).bind fun d => (asB d).bind fun b => if b = true then .ok (.bl true) else g ρ
def notD (f : En → Res D) (ρ : En) : Res D := (f ρ).bind fun d => (asB d).bind fun b => .ok (.bl (!b))
theorem asB_next {K : PySem.W.Frag} {mg : Str → Option Value} {W : WW} {σ : L2.St} {G H : Hp} {d : D} {x : V} {g : Bool → Res D} {k : D → V → Hp → Hp → Prop} (g1 : Same G H) (q : R K mg G d x) (w : Wr K mg (relD K mg) W σ G H ((asB d).bind g) k) :
  ∃ b, x = .bl b ∧ Wr K mg (relD K mg) W σ G H (g b) k := by
 cases d <;> first | exact w.elim | skip
 exact ⟨_, q, w⟩
section
variable {rest : List Expr}
theorem EF.one {op : BoolOp} (h : EF X W a f) : EF X W (.BoolOp op [a] pos) f := ⟨fun B => pe_one (h.run B)⟩
theorem EF.and (h : EF X W a fa) (h2 : EF X W (.BoolOp .And (b :: rest) pos) fb) : EF X W (.BoolOp .And (a :: b :: rest) pos) (andD fa fb) := ⟨fun B => PE.mono (pe_and (h.run B) (h2.run B)) fun σ H Q ⟨G, ρ, r, h⟩ =>
 lift.next (rel := relD X.K X.mg) (g := fun d ρ => (asB d).bind fun b => if b = true then fb ρ else .ok (.bl false)) later_D r h fun a b G1 H1 r1 s q w => by
  obtain ⟨b, e, w⟩ := asB_next r1.gh q w
  refine ⟨b, e, ?_⟩
  cases b with
  | true => exact ⟨G1, ρ, r1, w⟩
  | false => exact w.ok (Stp.refl r1.gh) rfl⟩
theorem EF.or (h : EF X W a fa) (h2 : EF X W (.BoolOp .Or (b :: rest) pos) fb) : EF X W (.BoolOp .Or (a :: b :: rest) pos) (orD fa fb) := ⟨fun B => PE.mono (pe_or (h.run B) (h2.run B)) fun σ H Q ⟨G, ρ, r, h⟩ =>
 lift.next (rel := relD X.K X.mg) (g := fun d ρ => (asB d).bind fun b => if b = true then .ok (.bl true) else fb ρ) later_D r h fun a b G1 H1 r1 s q w => by
  obtain ⟨b, e, w⟩ := asB_next r1.gh q w
  refine ⟨b, e, ?_⟩
  cases b with
  | false => exact ⟨G1, ρ, r1, w⟩
  | true => exact w.ok (Stp.refl r1.gh) rfl⟩
end
def nilA (_ : En) : Res (List D) := .ok []
def consA (f : En → Res D) (g : En → Res (List D)) (ρ : En) : Res (List D) := (f ρ).bind fun d => (g ρ).bind fun ds => .ok (d :: ds)
theorem EA.nil : EA X W [] nilA := ⟨fun B => PA.mono pa_nil fun σ H Q ⟨G, ρ, r, h⟩ => h.ok (Stp.refl r.gh) rfl⟩
theorem EA.cons (h : EF X W e f) (h2 : EA X W es fs) (hs : starEach (e :: es) X.env = (false, eval e X.env) :: starEach es X.env := by rfl) : EA X W (e :: es) (consA f fs) := ⟨fun B => PA.mono (pa_cons (h.run B) (h2.run B) hs) fun σ H Q ⟨G, ρ, r, h⟩ =>
 lift.next (rel := relD X.K X.mg) (g := fun d ρ => (fs ρ).bind fun ds => .ok (d :: ds)) later_L r h fun a b G1 H1 r1 s q w =>
  lift.next (rel := relL X.K X.mg) (g := fun ds _ => .ok (a :: ds)) later_L r1 w fun as bs G2 H2 r2 s2 q2 w2 => w2.ok (Stp.refl r2.gh) ⟨b, bs, rfl, R.mono s2.gg q, q2⟩⟩
end
end FL
namespace FL
open PySem PySem.Spec PyProof.Rows L2
def ofO {α : Type} : Option α → Res α
 | some a => .ok a
 | none => .bad
@[simp] theorem ofO_some {α : Type} (a : α) : ofO (some a) = .ok a := rfl
@[simp] theorem ofO_none {α : Type} : ofO (none : Option α) = .bad := rfl
def op1 (g : D → Option D) (f : En → Res D) (ρ : En) : Res D := (f ρ).bind fun x => ofO (g x)
def op2 (g : D → D → Option D) (f h : En → Res D) (ρ : En) : Res D := (f ρ).bind fun x => (h ρ).bind fun y => ofO (g x y)
def addD : D → D → Option D
 | .int i, .int j => some (.int (i + j))
 | .str a, .str b => if a.length + b.length ≤ 16777216 then some (.str (a ++ b)) else none
 | .lst a, .lst b => if a.length + b.length ≤ 16777216 then some (.lst (a ++ b)) else none
 | .tup a, .tup b => if a.length + b.length ≤ 16777216 then some (.tup (a ++ b)) else none
 | _, _ => none
def subD : D → D → Option D
 | .int i, .int j => some (.int (i - j))
 | _, _ => none
def repS (a : Str) (n : Nat) : Str := ⟨(List.replicate n a.cps.toList).flatten.toArray⟩
def mulD : D → D → Option D
 | .int i, .int j => if (-(2 ^ 64) < i ∧ i < 2 ^ 64) ∨ (-(2 ^ 64) < j ∧ j < 2 ^ 64) then some (.int (i * j)) else none
 | .lst a, .int k => if -(2 ^ 63) ≤ k ∧ k < 2 ^ 63 ∧ a.length * k.toNat ≤ 16777216 then some (.lst (List.replicate k.toNat a).flatten) else none
 | .str a, .int k => if -(2 ^ 63) ≤ k ∧ k < 2 ^ 63 ∧ a.length * k.toNat ≤ 16777216 then some (.str (repS a k.toNat)) else none
 | _, _ => none
def fdivD : D → D → Option D
 | .int i, .int j => if 0 < j ∧ j < 1073741824 then some (.int (i / j)) else none
 | _, _ => none
def modD : D → D → Option D
 | .int i, .int j => if 0 < j then some (.int (i % j)) else none
 | _, _ => none
def negD : D → Option D
 | .int i => some (.int (-i))
 | _ => none
def isN : D → Option D := fun d => some (.bl (match d with | .non => true | _ => false))
mutual
def eqv : D → D → Bool
 | .non, .non => true
 | .bl a, .bl b => a == b
 | .bl a, .int j => (if a then 1 else 0) == j
 | .int i, .bl b => i == (if b then 1 else 0)
 | .int i, .int j => i == j
 | .str x, .str y => x == y
 | .lst xs, .lst ys => eqvs xs ys
 | .tup xs, .tup ys => eqvs xs ys
 | _, _ => false
def eqvs : List D → List D → Bool
 | [], [] => true
 | x :: xs, y :: ys => eqv x y && eqvs xs ys
 | _, _ => false
end
mutual
def plain : Nat → D → Bool
 | _, .non => true
 | _, .bl _ => true
 | _, .int _ => true
 | _, .str _ => true
 | n, .lst xs => plains n xs
 | n, .tup xs => plains n xs
 | _, _ => false
def plains : Nat → List D → Bool
 | 0, _ => false
 | _ + 1, [] => true
 | n + 1, x :: xs => plain n x && plains (n + 1) xs
end
mutual
def py : D → PyData
 | .non => .none
 | .bl b => .bool b
 | .int i => .int i
 | .str z => .str z
 | .lst xs => .list (pys xs)
 | .tup xs => .tuple (pys xs)
 | _ => .none
def pys : List D → List PyData
 | [] => []
 | x :: xs => py x :: pys xs
end
def ordD (f : Bool → Bool → Bool) (a b : D) : Option D := if (plain 60 a && (plain 60 b && PySem.W.alike (py a) (py b))) = true then some (.bl (f (PySem.W.dataLt (py a) (py b)) (PySem.W.dataLt (py b) (py a)))) else none
def ltD : D → D → Option D
 | .int i, .int j => some (.bl (decide (i < j)))
 | .str i, .str j => some (.bl (decide (i.cps.toList < j.cps.toList)))
 | .lst a, .lst b => ordD (fun x _ => x) (.lst a) (.lst b)
 | .tup a, .tup b => ordD (fun x _ => x) (.tup a) (.tup b)
 | _, _ => none
def leD : D → D → Option D
 | .int i, .int j => some (.bl (decide (i ≤ j)))
 | .str i, .str j => some (.bl (!decide (j.cps.toList < i.cps.toList)))
 | .lst a, .lst b => ordD (fun _ y => !y) (.lst a) (.lst b)
 | .tup a, .tup b => ordD (fun _ y => !y) (.tup a) (.tup b)
 | _, _ => none
def gtD : D → D → Option D
 | .int i, .int j => some (.bl (decide (j < i)))
 | .str i, .str j => some (.bl (decide (j.cps.toList < i.cps.toList)))
 | .lst a, .lst b => ordD (fun _ y => y) (.lst a) (.lst b)
 | .tup a, .tup b => ordD (fun _ y => y) (.tup a) (.tup b)
 | _, _ => none
def geD : D → D → Option D
 | .int i, .int j => some (.bl (decide (j ≤ i)))
 | .str i, .str j => some (.bl (!decide (i.cps.toList < j.cps.toList)))
 | .lst a, .lst b => ordD (fun x _ => !x) (.lst a) (.lst b)
 | .tup a, .tup b => ordD (fun x _ => !x) (.tup a) (.tup b)
 | _, _ => none
def eqD (a b : D) : Option D := if (plain 64 a && plain 64 b) = true then some (.bl (eqv a b)) else none
def neD (a b : D) : Option D := if (plain 64 a && plain 64 b) = true then some (.bl (!eqv a b)) else none
def keyOf : D → Option Key
 | .int i => some (.inl i)
 | .str z => some (.inr z)
 | _ => none
def keysOf : List D → Option (List Key)
 | [] => some []
 | d :: ds => (keyOf d).bind fun k => (keysOf ds).bind fun ks => some (k :: ks)
def look {κ α : Type} [DecidableEq κ] : List κ → List α → κ → Option α
 | k :: ks, x :: xs, q => if k = q then some x else look ks xs q
 | _, _, _ => none
def ixD : D → D → Option D
 | .lst xs, .int i => atI xs i
 | .tup xs, .int i => atI xs i
 | .str z, .int i => (atI z.cps.toList i).map fun c => .str ⟨#[c]⟩
 | .scr ns, .int i => (atI ns i).map .int
 | .dK ks xs, k => (keyOf k).bind fun k => look ks xs k
 | .dT ks xs, .tup k => (keysOf k).bind fun k => look ks xs k
 | _, _ => none
def inD : D → D → Option Bool
 | x, .lst xs => if (flat x && xs.all flat) = true then some (xs.any fun y => eqv y x) else none
 | x, .tup xs => if (flat x && xs.all flat) = true then some (xs.any fun y => eqv y x) else none
 | .str a, .str z => if a.cps.size = 1 then some (decide (a.cps.getD 0 0 ∈ z.cps.toList)) else none
 | k, .dK ks xs => (keyOf k).bind fun k => some (look ks xs k).isSome
 | .tup k, .dT ks xs => (keysOf k).bind fun k => some (look ks xs k).isSome
 | _, _ => none
def inD1 (x y : D) : Option D := (inD x y).map .bl
def lenD : D → Option D
 | .lst xs => some (.int xs.length)
 | .tup xs => some (.int xs.length)
 | .str z => some (.int z.length)
 | .scr ns => some (.int ns.length)
 | .dK ks xs => some (.int ks.length)
 | _ => none
section
variable {X : Cx} {W : WW}
def rD (X : Cx) (g : D → D → Option D) : R2 := fun x y H Q => ∃ G d e c, Same G H ∧ R X.K X.mg G d x ∧ R X.K X.mg G e y ∧ g d e = some c ∧ ∀ v G' H', Stp G H G' H' → R X.K X.mg G' c v → Q v H'
def OpD (X : Cx) (f : Value → Value → Sem Value) (g : D → D → Option D) : Prop := OpR X f (rD X g)
def UnD (X : Cx) (f : Value → Sem Value) (g : D → Option D) : Prop := UnR X f fun x H Q => ∃ G d c, Same G H ∧ R X.K X.mg G d x ∧ g d = some c ∧ ∀ v G' H', Stp G H G' H' → R X.K X.mg G' c v → Q v H'
theorem R.lst {K : PySem.W.Frag} {mg : Str → Option Value} {G : Hp} {ds : List D} {x : V} (h : R K mg G (.lst ds) x) : ∃ a vs, x = .ref a ∧ ds.length ≤ sizeLine ∧ G a = some (.lst vs) ∧ Rs K mg G ds vs := h
theorem R.tup {K : PySem.W.Frag} {mg : Str → Option Value} {G : Hp} {ds : List D} {x : V} (h : R K mg G (.tup ds) x) : ∃ a vs, x = .ref a ∧ ds.length ≤ sizeLine ∧ G a = some (.tup vs) ∧ Rs K mg G ds vs := h
theorem R.newL {K : PySem.W.Frag} {mg : Str → Option Value} {G : Hp} {ds : List D} {vs : List V} {p : Addr} (n : G p = none) (l : ds.length ≤ sizeLine) (h : Rs K mg G ds vs) : R K mg (upd G p (.lst vs)) (.lst ds) (.ref p) := ⟨p, vs, rfl, l, upd_same, Rs.mono (same_new n) h⟩
theorem R.newT {K : PySem.W.Frag} {mg : Str → Option Value} {G : Hp} {ds : List D} {vs : List V} {p : Addr} (n : G p = none) (l : ds.length ≤ sizeLine) (h : Rs K mg G ds vs) : R K mg (upd G p (.tup vs)) (.tup ds) (.ref p) := ⟨p, vs, rfl, l, upd_same, Rs.mono (same_new n) h⟩
theorem strOk_append {a b : Str} (ha : PyData.strOk a = true) (hb : PyData.strOk b = true) : PyData.strOk (a ++ b) = true := by
 unfold PyData.strOk at *
 show (a.cps ++ b.cps).all _ = true
 rw [Array.all_append, ha, hb]; rfl
theorem strOk_one {z : Str} {c : Nat} (h : PyData.strOk z = true) (m : c ∈ z.cps.toList) : PyData.strOk ⟨#[c]⟩ = true := by
 unfold PyData.strOk at *
 rw [← Array.all_toList] at *
 have := List.all_eq_true.mp h c m
 simpa using this
theorem sz_le {n : Nat} (h : n ≤ 16777216) : n ≤ sizeLine := by rw [sizeLine_eq]; exact h
theorem add_ok : OpD X (binaryOp .Add) addD := by
 rintro pins s σ H x y v u Q I rx ry ⟨G, d, e, c, gh, r1, r2, hg, k⟩
 unfold addD at hg
 split at hg
 ·cases hg; exact op_add pins s σ H x y v u Q I rx ry ⟨_, _, r1, r2, k _ _ _ (Stp.refl gh) rfl⟩
 ·split at hg
  ·rename_i hl; cases hg
   obtain ⟨rfl, z1, z2⟩ := r1
   obtain ⟨rfl, y1, y2⟩ := r2
   exact op_add_str pins s σ H _ _ v u Q I rx ry ⟨_, _, rfl, rfl, sz_le hl, k _ _ _ (Stp.refl gh) ⟨rfl, by rw [PySem.Str.length_append]; exact sz_le hl, strOk_append z2 y2⟩⟩
  ·cases hg
 ·split at hg
  ·rename_i hl; cases hg
   obtain ⟨p, vs, rfl, _, e1, q1⟩ := r1.lst
   obtain ⟨p2, us, rfl, _, e2, q2⟩ := r2.lst
   refine op_cat pins s σ H _ _ v u Q I rx ry ⟨p, p2, vs, us, rfl, rfl, gh _ _ e1, gh _ _ e2, by rw [q1.len, q2.len]; exact sz_le hl, fun q hq => ?_⟩
   exact k _ _ _ (Stp.new gh hq) (R.newL (gh.free hq) (by rw [List.length_append]; exact sz_le hl) (q1.append q2))
  ·cases hg
 ·split at hg
  ·rename_i hl; cases hg
   obtain ⟨p, vs, rfl, l1, e1, q1⟩ := r1.tup
   obtain ⟨p2, us, rfl, l2, e2, q2⟩ := r2.tup
   have l1' := q1.len
   have l2' := q2.len
   refine op_catA pins s σ H _ _ v u Q I rx ry ⟨p, p2, vs, us, rfl, rfl, SqT.of (gh _ _ e1), SqT.of (gh _ _ e2), by rw [q1.len, q2.len]; exact sz_le hl, fun z => ?_, fun _ z => ?_, fun _ _ q hq => ?_⟩
   ·rw [z] at l1'
    have hb := List.length_eq_zero_iff.mp l1'.symm
    refine k _ _ _ (Stp.refl gh) ?_
    rw [hb, List.nil_append]
    exact ⟨p2, us, rfl, l2, e2, q2⟩
   ·rw [z] at l2'
    have hb := List.length_eq_zero_iff.mp l2'.symm
    refine k _ _ _ (Stp.refl gh) ?_
    rw [hb, List.append_nil]
    exact ⟨p, vs, rfl, l1, e1, q1⟩
   ·exact k _ _ _ (Stp.new gh hq) (R.newT (gh.free hq) (by rw [List.length_append]; exact sz_le hl) (q1.append q2))
  ·cases hg
 ·cases hg
theorem sub_ok : OpD X (binaryOp .Sub) subD := by
 rintro pins s σ H x y v u Q I rx ry ⟨G, d, e, c, gh, r1, r2, hg, k⟩
 unfold subD at hg
 split at hg
 ·cases hg; exact op_sub pins s σ H x y v u Q I rx ry ⟨_, _, r1, r2, k _ _ _ (Stp.refl gh) rfl⟩
 ·cases hg
theorem Rs.rep {K : PySem.W.Frag} {mg : Str → Option Value} {G : Hp} {ds : List D} {vs : List V} (h : Rs K mg G ds vs) : ∀ n : Nat, Rs K mg G (List.replicate n ds).flatten (List.replicate n vs).flatten
 | 0 => rfl
 | n + 1 => by
  rw [List.replicate_succ, List.replicate_succ, List.flatten_cons, List.flatten_cons]
  exact h.append (Rs.rep h n)
theorem repS_fold (c : Array Nat) : ∀ (n : Nat) (acc : Array Nat), ((List.replicate n c).foldl (fun a b => a ++ b) acc).toList = acc.toList ++ (List.replicate n c.toList).flatten
 | 0, acc => by simp
 | n + 1, acc => by
  rw [List.replicate_succ, List.foldl_cons, repS_fold c n, List.replicate_succ, List.flatten_cons, Array.toList_append, List.append_assoc]
theorem repS_len (a : Str) (n : Nat) : (repS a n).length = a.length * n := by
 show (List.replicate n a.cps.toList).flatten.toArray.size = a.cps.size * n
 rw [List.size_toArray, List.length_flatten, List.map_replicate, List.sum_replicate_nat, Array.length_toList, Nat.mul_comm]
theorem repS_ok {a : Str} (n : Nat) (h : PyData.strOk a = true) : PyData.strOk (repS a n) = true := by
 unfold PyData.strOk at *
 show (List.replicate n a.cps.toList).flatten.toArray.all _ = true
 rw [List.all_toArray, List.all_flatten, List.all_replicate, Array.all_toList, h]
 simp
theorem op_mul_str : OpR X (binaryOp .Mult) (fun x y H Q => ∃ (a : Str) (k : Int), x = .str a ∧ y = .int k ∧ -(2 ^ 63) ≤ k ∧ k < 2 ^ 63 ∧ a.length * k.toNat ≤ sizeLine ∧ Q (.str (repS a k.toNat)) H) := by
 intro pins s σ H x y v u Q I rx ry ⟨a, k, e1, e2, h1, h2, hz, q⟩
 subst e1 e2
 obtain ⟨t, rfl⟩ := rx
 obtain ⟨t2, rfl⟩ := ry
 have hs : sizeLine = 16777216 := sizeLine_eq
 refine PySem.P.mul_str (by rw [decide_eq_false (by omega), decide_eq_false (by omega)]; rfl) (fun g1 _ => ?_) (fun g1 _ => decide_eq_false (by omega)) ?_
 ·have e : ((a.length * k.toNat : Nat) : Int) = (a.length : Int) * k := by
   rw [Int.natCast_mul, Int.toNat_of_nonneg (by omega)]
  have := Int.le_ediv_of_mul_le (a := (a.length : Int)) (b := 2 ^ 63 - 1) (c := k) (by omega) (by omega)
  omega
 ·split
  ·have e : repS a k.toNat = Str.empty := by rw [show k.toNat = 0 by omega]; rfl
   rw [e] at q
   exact ⟨by decide, .str Str.empty, H, I.tok _, ⟨_, rfl⟩, q⟩
  ·split
   ·rename_i g1 g2
    have e : repS a k.toNat = a := by
     rcases Bool.or_eq_true_iff.mp g2 with g2 | g2
     ·rw [show k = 1 by simpa using g2]
      show (⟨(List.replicate 1 a.cps.toList).flatten.toArray⟩ : Str) = a
      simp
     ·have e0 : a.cps = #[] := Array.eq_empty_of_size_eq_zero (show a.length = 0 by simpa using g2)
      obtain ⟨c⟩ := a
      dsimp only at e0
      subst e0
      unfold repS
      simp
    rw [e] at q
    exact ⟨.str a, H, I, ⟨t, rfl⟩, q⟩
   ·have e : (⟨(List.replicate k.toNat a.cps).foldl (fun x y => x ++ y) #[]⟩ : Str) = repS a k.toNat := by
     unfold repS
     congr 1
     apply Array.toList_inj.mp
     rw [repS_fold]; simp
    exact ⟨by rw [e, repS_len]; exact hz, .str (repS a k.toNat), H, I.tok _, ⟨_, by rw [e]⟩, q⟩
theorem mul_ok : OpD X (binaryOp .Mult) mulD := by
 rintro pins s σ H x y v u Q I rx ry ⟨G, d, e, c, gh, r1, r2, hg, k⟩
 unfold mulD at hg
 split at hg
 ·split at hg
  ·rename_i hl; cases hg; exact op_mul pins s σ H x y v u Q I rx ry ⟨_, _, r1, r2, hl, k _ _ _ (Stp.refl gh) rfl⟩
  ·cases hg
 ·split at hg
  ·rename_i a n hl; cases hg
   obtain ⟨p, vs, rfl, _, e1, q1⟩ := r1.lst
   refine op_rep pins s σ H _ y v u Q I rx ry ⟨p, n, vs, rfl, r2, gh _ _ e1, hl.1, hl.2.1, by rw [q1.len]; exact sz_le hl.2.2, fun q hq => ?_⟩
   exact k _ _ _ (Stp.new gh hq) (R.newL (gh.free hq) (by rw [List.length_flatten, List.map_replicate, List.sum_replicate_nat, Nat.mul_comm]; exact sz_le hl.2.2) (q1.rep _))
  ·cases hg
 ·split at hg
  ·rename_i hl; cases hg
   obtain ⟨rfl, z1, z2⟩ := r1
   exact op_mul_str pins s σ H _ y v u Q I rx ry ⟨_, _, rfl, r2, hl.1, hl.2.1, sz_le hl.2.2, k _ _ _ (Stp.refl gh) ⟨rfl, by rw [repS_len]; exact sz_le hl.2.2, repS_ok _ z2⟩⟩
  ·cases hg
 ·cases hg
theorem fdiv_ok : OpD X (binaryOp .FloorDiv) fdivD := by
 rintro pins s σ H x y v u Q I rx ry ⟨G, d, e, c, gh, r1, r2, hg, k⟩
 unfold fdivD at hg
 split at hg
 ·split at hg
  ·rename_i hl; cases hg; exact op_fdiv pins s σ H x y v u Q I rx ry ⟨_, _, r1, r2, hl, k _ _ _ (Stp.refl gh) rfl⟩
  ·cases hg
 ·cases hg
theorem mod_ok : OpD X (binaryOp .Mod) modD := by
 rintro pins s σ H x y v u Q I rx ry ⟨G, d, e, c, gh, r1, r2, hg, k⟩
 unfold modD at hg
 split at hg
 ·split at hg
  ·rename_i hl; cases hg; exact op_mod pins s σ H x y v u Q I rx ry ⟨_, _, r1, r2, hl, k _ _ _ (Stp.refl gh) rfl⟩
  ·cases hg
 ·cases hg
theorem neg_ok : UnD X (unaryOp .USub) negD := by
 rintro pins s σ H x v Q I rx ⟨G, d, c, gh, r1, hg, k⟩
 unfold negD at hg
 split at hg
 ·cases hg; exact un_neg pins s σ H x v Q I rx ⟨_, r1, k _ _ _ (Stp.refl gh) rfl⟩
 ·cases hg
mutual
theorem py_dp {K : PySem.W.Frag} {mg : Str → Option Value} {G H : Hp} (gh : Same G H) : ∀ (n : Nat) (d : D) (x : V), plain n d = true → R K mg G d x → Dp K H x (py d)
 | _, .non, x, _, r => by rw [show x = .non from r]; exact .non
 | _, .bl b, x, _, r => by rw [show x = .bl b from r]; exact .bl b
 | _, .int i, x, _, r => by rw [show x = .int i from r]; exact .int i
 | _, .str z, x, _, r => by rw [show x = .str z from r.1]; exact .str z
 | n, .lst xs, x, p, r => by
  obtain ⟨a, vs, rfl, l, e, q⟩ := r.lst
  exact .lst (SqL.of (gh _ _ e)) (pys_dp gh n xs vs (by simpa [plain] using p) q)
 | n, .tup xs, x, p, r => by
  obtain ⟨a, vs, rfl, l, e, q⟩ := r.tup
  exact .tup (SqT.of (gh _ _ e)) (pys_dp gh n xs vs (by simpa [plain] using p) q)
 | _, .dK _ _, _, p, _ => by simp [plain] at p
 | _, .dT _ _, _, p, _ => by simp [plain] at p
 | _, .ins _ _ _, _, p, _ => by simp [plain] at p
 | _, .scr _, _, p, _ => by simp [plain] at p
 | _, .exn _, _, p, _ => by simp [plain] at p
 | _, .exq _ _ _, _, p, _ => by simp [plain] at p
theorem pys_dp {K : PySem.W.Frag} {mg : Str → Option Value} {G H : Hp} (gh : Same G H) : ∀ (n : Nat) (ds : List D) (vs : List V), plains n ds = true → Rs K mg G ds vs → DpAll K H vs (pys ds)
 | 0, _, _, p, _ => by simp [plains] at p
 | n + 1, [], vs, _, r => by rw [show vs = [] from r]; exact .nil
 | n + 1, d :: ds, vs, p, r => by
  obtain ⟨v, t, rfl, h, q⟩ := r
  simp only [plains, Bool.and_eq_true] at p
  exact .cons (py_dp gh n d v p.1 h) (pys_dp gh (n + 1) ds t p.2 q)
end
mutual
theorem py_lay {K : PySem.W.Frag} {mg : Str → Option Value} {G : Hp} : ∀ (n : Nat) (d : D) (x : V), plain n d = true → R K mg G d x → (py d).canLay0 = true ∧ (py d).depth ≤ n
 | _, .non, x, _, r => by simp [py, PyData.canLay0, PyData.depth]
 | _, .bl b, x, _, r => by simp [py, PyData.canLay0, PyData.depth]
 | _, .int i, x, _, r => by simp [py, PyData.canLay0, PyData.depth]
 | _, .str z, x, _, r => by simp [py, PyData.canLay0, PyData.depth, r.2.2]
 | n, .lst xs, x, p, r => by
  obtain ⟨a, vs, rfl, l, e, q⟩ := r.lst
  have h := pys_lay n xs vs (by simpa [plain] using p) q
  simp only [py, PyData.canLay0, PyData.depth]
  exact ⟨h.1, by have := h.2; omega⟩
 | n, .tup xs, x, p, r => by
  obtain ⟨a, vs, rfl, l, e, q⟩ := r.tup
  have h := pys_lay n xs vs (by simpa [plain] using p) q
  simp only [py, PyData.canLay0, PyData.depth]
  exact ⟨h.1, by have := h.2; omega⟩
 | _, .dK _ _, _, p, _ => by simp [plain] at p
 | _, .dT _ _, _, p, _ => by simp [plain] at p
 | _, .ins _ _ _, _, p, _ => by simp [plain] at p
 | _, .scr _, _, p, _ => by simp [plain] at p
 | _, .exn _, _, p, _ => by simp [plain] at p
 | _, .exq _ _ _, _, p, _ => by simp [plain] at p
theorem pys_lay {K : PySem.W.Frag} {mg : Str → Option Value} {G : Hp} : ∀ (n : Nat) (ds : List D) (vs : List V), plains n ds = true → Rs K mg G ds vs → PyData.canLayAll0 (pys ds) = true ∧ PyData.depthAll (pys ds) + 1 ≤ n
 | 0, _, _, p, _ => by simp [plains] at p
 | n + 1, [], vs, _, r => by simp [pys, PyData.canLayAll0, PyData.depthAll]
 | n + 1, d :: ds, vs, p, r => by
  obtain ⟨v, t, rfl, h, q⟩ := r
  simp only [plains, Bool.and_eq_true] at p
  have h1 := py_lay n d v p.1 h
  have h2 := pys_lay (n + 1) ds t p.2 q
  simp only [pys, PyData.canLayAll0, PyData.depthAll, Bool.and_eq_true]
  exact ⟨⟨h1.1, h2.1⟩, by have := h1.2; have := h2.2; omega⟩
end
mutual
theorem eqv_py : ∀ (n : Nat) (d e : D), plain n d = true → plain n e = true → PyData.eqv (py d) (py e) = eqv d e
 | n, .lst xs, e, p, q => by
  cases e <;> first | (simp [plain] at q; done) | (simp [py, PyData.eqv, eqv]; done) | skip
  rename_i ys
  simp only [py, PyData.eqv, eqv]
  exact eqvs_py n xs ys (by simpa [plain] using p) (by simpa [plain] using q)
 | n, .tup xs, e, p, q => by
  cases e <;> first | (simp [plain] at q; done) | (simp [py, PyData.eqv, eqv]; done) | skip
  rename_i ys
  simp only [py, PyData.eqv, eqv]
  exact eqvs_py n xs ys (by simpa [plain] using p) (by simpa [plain] using q)
 | _, .non, e, p, q => by cases e <;> first | (simp [plain] at q; done) | (simp [py, PyData.eqv, eqv]; done)
 | _, .bl _, e, p, q => by cases e <;> first | (simp [plain] at q; done) | (simp [py, PyData.eqv, eqv]; done)
 | _, .int _, e, p, q => by cases e <;> first | (simp [plain] at q; done) | (simp [py, PyData.eqv, eqv]; done)
 | _, .str _, e, p, q => by cases e <;> first | (simp [plain] at q; done) | (simp [py, PyData.eqv, eqv]; done)
 | _, .dK _ _, _, p, _ => by simp [plain] at p
 | _, .dT _ _, _, p, _ => by simp [plain] at p
 | _, .ins _ _ _, _, p, _ => by simp [plain] at p
 | _, .scr _, _, p, _ => by simp [plain] at p
 | _, .exn _, _, p, _ => by simp [plain] at p
 | _, .exq _ _ _, _, p, _ => by simp [plain] at p
theorem eqvs_py : ∀ (n : Nat) (ds es : List D), plains n ds = true → plains n es = true → PyData.eqvAll (pys ds) (pys es) = eqvs ds es
 | 0, _, _, p, _ => by simp [plains] at p
 | n + 1, [], es, p, q => by cases es <;> simp [pys, PyData.eqvAll, eqvs]
 | n + 1, d :: ds, [], p, q => by simp [pys, PyData.eqvAll, eqvs]
 | n + 1, d :: ds, e :: es, p, q => by
  simp only [plains, Bool.and_eq_true] at p q
  simp only [pys, PyData.eqvAll, eqvs]
  rw [eqv_py n d e p.1 q.1, eqvs_py (n + 1) ds es p.2 q.2]
end
theorem shaped_of {K : PySem.W.Frag} {mg : Str → Option Value} {G : Hp} {d : D} {x : V} (p : plain 64 d = true) (r : R K mg G d x) : SeqAt.shaped (py d) = true := by
 obtain ⟨a, b⟩ := py_lay 64 d x p r
 unfold SeqAt.shaped
 simp [a, b]
theorem eq_ok (hu : X.A.units + 64 < cLine) : OpD X (compareOp .Eq) eqD := by
 rintro pins s σ H x y v u Q I rx ry ⟨G, d, e, c, gh, r1, r2, hg, k⟩
 unfold eqD at hg
 split at hg
 ·rename_i p; cases hg
  rw [Bool.and_eq_true] at p
  exact op_eqD hu pins s σ H x y v u Q I rx ry ⟨_, _, py_dp gh 64 d x p.1 r1, py_dp gh 64 e y p.2 r2, shaped_of p.1 r1, shaped_of p.2 r2, by rw [eqv_py 64 d e p.1 p.2]; exact k _ _ _ (Stp.refl gh) rfl⟩
 ·cases hg
theorem ne_ok (hu : X.A.units + 64 < cLine) : OpD X (compareOp .NotEq) neD := by
 rintro pins s σ H x y v u Q I rx ry ⟨G, d, e, c, gh, r1, r2, hg, k⟩
 unfold neD at hg
 split at hg
 ·rename_i p; cases hg
  rw [Bool.and_eq_true] at p
  exact op_neD hu pins s σ H x y v u Q I rx ry ⟨_, _, py_dp gh 64 d x p.1 r1, py_dp gh 64 e y p.2 r2, shaped_of p.1 r1, shaped_of p.2 r2, by rw [eqv_py 64 d e p.1 p.2]; exact k _ _ _ (Stp.refl gh) rfl⟩
 ·cases hg
theorem ord_ok {op : CmpOp} {f : Bool → Bool → Bool} (hu : X.A.units + 64 < cLine) (lem : ∀ {prog : Program} {w : World} {A : Around} {s : Shared} {a b : Value} {da db : PyData} {as bs : List Addr} {E Q : Value → Shared → Prop}, Reads s.heap a da as → Reads s.heap b db bs → PySem.W.alike da db = true → da ≠ .none → A.units + min da.depth db.depth < cLine → Q (.bool (f (PySem.W.dataLt da db) (PySem.W.dataLt db da))) s → wpAny (model prog w) A (compareOp op a b) Q E s) {d e : D} (nn : py d ≠ .none)
  (pins : List (Addr × Obj)) (s : Shared) (σ : L2.St) (H : Hp) (x y : V) (v u : Value) (Q : VK) (I : Inv X pins σ H s) (rx : RelV x v) (ry : RelV y u) {G : Hp} (gh : Same G H) (r1 : R X.K X.mg G d x) (r2 : R X.K X.mg G e y) {c : D} (hg : ordD f d e = some c) (k : ∀ v G' H', Stp G H G' H' → R X.K X.mg G' c v → Q v H') : wpAny (model X.prog X.w) X.A (compareOp op v u) (EP X pins σ Q) X.xe s := by
 unfold ordD at hg
 split at hg
 ·rename_i p
  cases hg
  simp only [Bool.and_eq_true] at p
  obtain ⟨p1, p2, p3⟩ := p
  obtain ⟨as, h1⟩ := Dp.reads I _ x v (py_dp gh 60 d x p1 r1) rx
  obtain ⟨bs, h2⟩ := Dp.reads I _ y u (py_dp gh 60 e y p2 r2) ry
  have hd := (py_lay 60 d x p1 r1).2
  refine lem h1 h2 p3 nn (by have := Nat.min_le_left (py d).depth (py e).depth; omega) ⟨.bl _, H, I, rfl, k _ _ _ (Stp.refl gh) rfl⟩
 ·cases hg
theorem lt_ok (hu : X.A.units + 64 < cLine) : OpD X (compareOp .Lt) ltD := by
 rintro pins s σ H x y v u Q I rx ry ⟨G, d, e, c, gh, r1, r2, hg, k⟩
 unfold ltD at hg
 split at hg
 ·cases hg; exact op_lt pins s σ H x y v u Q I rx ry ⟨_, _, r1, r2, k _ _ _ (Stp.refl gh) rfl⟩
 ·cases hg; exact op_lt_str pins s σ H x y v u Q I rx ry ⟨_, _, r1.1, r2.1, k _ _ _ (Stp.refl gh) rfl⟩
 ·exact ord_ok hu PySem.W.lt_data (nn := by simp [py]) pins s σ H x y v u Q I rx ry gh r1 r2 hg k
 ·exact ord_ok hu PySem.W.lt_data (nn := by simp [py]) pins s σ H x y v u Q I rx ry gh r1 r2 hg k
 ·cases hg
theorem le_ok (hu : X.A.units + 64 < cLine) : OpD X (compareOp .LtE) leD := by
 rintro pins s σ H x y v u Q I rx ry ⟨G, d, e, c, gh, r1, r2, hg, k⟩
 unfold leD at hg
 split at hg
 ·cases hg; exact op_le pins s σ H x y v u Q I rx ry ⟨_, _, r1, r2, k _ _ _ (Stp.refl gh) rfl⟩
 ·cases hg; exact op_le_str pins s σ H x y v u Q I rx ry ⟨_, _, r1.1, r2.1, k _ _ _ (Stp.refl gh) rfl⟩
 ·exact ord_ok hu PySem.W.le_data (nn := by simp [py]) pins s σ H x y v u Q I rx ry gh r1 r2 hg k
 ·exact ord_ok hu PySem.W.le_data (nn := by simp [py]) pins s σ H x y v u Q I rx ry gh r1 r2 hg k
 ·cases hg
theorem gt_ok (hu : X.A.units + 64 < cLine) : OpD X (compareOp .Gt) gtD := by
 rintro pins s σ H x y v u Q I rx ry ⟨G, d, e, c, gh, r1, r2, hg, k⟩
 unfold gtD at hg
 split at hg
 ·cases hg; exact op_gt pins s σ H x y v u Q I rx ry ⟨_, _, r1, r2, k _ _ _ (Stp.refl gh) rfl⟩
 ·cases hg; exact op_gt_str pins s σ H x y v u Q I rx ry ⟨_, _, r1.1, r2.1, k _ _ _ (Stp.refl gh) rfl⟩
 ·exact ord_ok hu PySem.W.gt_data (nn := by simp [py]) pins s σ H x y v u Q I rx ry gh r1 r2 hg k
 ·exact ord_ok hu PySem.W.gt_data (nn := by simp [py]) pins s σ H x y v u Q I rx ry gh r1 r2 hg k
 ·cases hg
variable {a b : Expr} {fa fb : En → Res D} {pos : Pos}
theorem bin_next {g : D → D → Option D} {B : Bs} {σ : L2.St} {H : Hp} {Q : VK} (h : lift X W (relD X.K X.mg) B (op2 g fa fb) σ H Q) :
  lift X W (relD X.K X.mg) B fa σ H fun x H1 => lift X W (relD X.K X.mg) B fb σ H1 fun y H2 => rD X g x y H2 Q := by
 obtain ⟨G, ρ, r, h⟩ := h
 refine lift.next (rel := relD X.K X.mg) (g := fun x ρ => (fb ρ).bind fun y => ofO (g x y)) later_D r h fun d x G1 H1 r1 s1 q1 w1 => ?_
 refine lift.next (rel := relD X.K X.mg) (g := fun y _ => ofO (g d y)) later_D r1 w1 fun e y G2 H2 r2 s2 q2 w2 => ?_
 cases hg : g d e with
 | none => rw [hg] at w2; exact w2.elim
 | some c =>
  rw [hg] at w2
  exact ⟨G2, d, e, c, r2.gh, R.mono s2.gg q1, q2, hg, w2⟩
theorem EF.bin {op : Operator} {g : D → D → Option D} (ho : OpD X (binaryOp op) g) (ha : EF X W a fa) (hb : EF X W b fb) : EF X W (.BinOp a op b pos) (op2 g fa fb) := ⟨fun B => PE.mono (pe_op ho (ha.run B) (hb.run B)) fun σ H Q h => bin_next h⟩
theorem EF.un {op : UnaryOp} {g : D → Option D} (ho : UnD X (unaryOp op) g) (ha : EF X W a fa) : EF X W (.UnaryOp op a pos) (op1 g fa) := ⟨fun B => PE.mono (pe_un ho (ha.run B)) fun σ H Q ⟨G, ρ, r, h⟩ =>
 lift.next (rel := relD X.K X.mg) (g := fun x _ => ofO (g x)) later_D r h fun d x G1 H1 r1 s1 q1 w1 => by
  cases hg : g d with
  | none => rw [hg] at w1; exact w1.elim
  | some c => rw [hg] at w1; exact ⟨G1, d, c, r1.gh, q1, hg, w1⟩⟩
theorem pc_op {op : CmpOp} {r : R2} {ta tb : TE} (ho : OpR X (compareOp op) r) (ha : PE X a ta) (hb : PE X b tb) : PC X op a b (tOp r ta tb) := ⟨fun pins s σ H Q I h =>
 binT ha hb I h fun v u s2 x y H2 I2 rx ry q => ho pins s2 σ H2 x y v u Q I2 rx ry q⟩
theorem EC.op {op : CmpOp} {g : D → D → Option D} (ho : OpD X (compareOp op) g) (ha : EF X W a fa) (hb : EF X W b fb) : EC X W op a b (op2 g fa fb) := ⟨fun B => PC.mono (pc_op ho (ha.run B) (hb.run B)) fun σ H Q h => bin_next h⟩
theorem EC.isN {j pos'} (ha : EF X W a fa) : EC X W .Is a (.Constant .none j pos') (op1 isN fa) := ⟨fun B => PC.mono (pc_isN (ha.run B)) fun σ H Q ⟨G, ρ, r, h⟩ =>
 lift.next (rel := relD X.K X.mg) (g := fun x _ => ofO (FL.isN x)) later_D r h fun d x G1 H1 r1 s1 q1 w1 => by
  refine w1.ok (Stp.refl r1.gh) ?_
  cases d <;> first | (rw [show x = _ from q1]; rfl) | (rw [show x = _ from q1.1]; rfl) | (obtain ⟨_, _, rfl, _⟩ := q1; rfl) | (obtain ⟨_, _, _, _, rfl, _⟩ := q1; rfl) | (obtain ⟨_, rfl, _⟩ := q1; rfl)⟩
def chD (g g' : D → D → Option D) (fa fb fc : En → Res D) (ρ : En) : Res D := (fa ρ).bind fun x => (fb ρ).bind fun y => (ofO (g x y)).bind fun z => (asB z).bind fun k => if k = true then (fc ρ).bind fun w => ofO (g' y w) else .ok (.bl false)
end
end FL
namespace FL
open PySem PySem.Spec PyProof.Rows L2
section
variable {X : Cx} {W : WW} {a b e : Expr} {es : List Expr} {fa fb fc : En → Res D} {fs : En → Res (List D)} {pos : Pos}
theorem Rs.atI {K : PySem.W.Frag} {mg : Str → Option Value} {G : Hp} {ds : List D} {vs : List V} {i : Int} {d : D} (h : Rs K mg G ds vs) (q : L2.atI ds i = some d) : ∃ v, L2.atI vs i = some v ∧ R K mg G d v := by
 unfold L2.atI at q ⊢
 rw [h.len]
 cases e : ixN ds.length i with
 | none => rw [e] at q; cases q
 | some j =>
  rw [e] at q
  exact h.get (by simpa using q)
theorem atI_map {α β : Type} (g : α → β) (xs : List α) (i : Int) : L2.atI (xs.map g) i = (L2.atI xs i).map g := by
 unfold L2.atI
 rw [List.length_map]
 cases ixN xs.length i with
 | none => rfl
 | some j => simp
theorem keyOf_ok {K : PySem.W.Frag} {mg : Str → Option Value} {G : Hp} {d : D} {x : V} {k : Key} (h : R K mg G d x) (q : keyOf d = some k) : x = kV k := by
 unfold keyOf at q
 split at q
 ·cases q; exact h
 ·cases q; exact h.1
 ·cases q
theorem keysOf_ok {K : PySem.W.Frag} {mg : Str → Option Value} {G : Hp} : ∀ {ds : List D} {xs : List V} {ks : List Key}, Rs K mg G ds xs → keysOf ds = some ks → xs = ks.map kV
 | [], _, _, h, q => by cases q; exact h
 | d :: ds, _, ks, ⟨v, r, e, h, t⟩, q => by
  unfold keysOf at q
  cases e1 : keyOf d with
  | none => rw [e1] at q; cases q
  | some k =>
   cases e2 : keysOf ds with
   | none => rw [e1, e2] at q; cases q
   | some l =>
    rw [e1, e2] at q; cases q
    rw [e, keyOf_ok h e1, keysOf_ok t e2]; rfl
theorem look_ok {K : PySem.W.Frag} {mg : Str → Option Value} {G : Hp} {κ : Type} [DecidableEq κ] (k : κ) : ∀ {ks : List κ} {ds : List D} {vs : List V}, Rs K mg G ds vs → ks.length = ds.length →
  (look ks ds k = none ∧ valV (ks.zip vs) k = none) ∨ ∃ d v, look ks ds k = some d ∧ valV (ks.zip vs) k = some v ∧ R K mg G d v
 | [], ds, vs, h, l => .inl ⟨by unfold look; rfl, rfl⟩
 | q :: ks, [], _, h, l => by cases l
 | q :: ks, d :: ds, _, ⟨v, r, e, h, t⟩, l => by
  subst e
  rw [List.zip_cons_cons]
  by_cases e : q = k
  ·exact .inr ⟨d, v, by unfold look; rw [if_pos e], valV_pos (p := (q, v)) e, h⟩
  ·have e1 : look (q :: ks) (d :: ds) k = look ks ds k := by rw [look, if_neg e]
   rw [e1, valV_neg (p := (q, v)) e]
   exact look_ok k t (by simpa using l)
theorem R.dK {K : PySem.W.Frag} {mg : Str → Option Value} {G : Hp} {ks : List Key} {ds : List D} {x : V} (h : R K mg G (.dK ks ds) x) : ∃ a vs, x = .ref a ∧ ks.length = ds.length ∧ Rd G a (.dK (ks.zip vs)) ∧ Rs K mg G ds vs := h
theorem R.dT {K : PySem.W.Frag} {mg : Str → Option Value} {G : Hp} {ks : List (List Key)} {ds : List D} {x : V} (h : R K mg G (.dT ks ds) x) : ∃ a vs, x = .ref a ∧ ks.length = ds.length ∧ Rd G a (.dT (ks.zip vs)) ∧ Rs K mg G ds vs := h
theorem dget_K {K : PySem.W.Frag} {mg : Str → Option Value} {G H : Hp} (gh : Same G H) {ks : List Key} {ds : List D} {d : D} {k : Key} {x y : V} (h : R K mg G (.dK ks ds) x) (h2 : R K mg G d y) (hk : keyOf d = some k) :
  ∃ a, x = .ref a ∧ ((look ks ds k = none ∧ DGet H a y none) ∨ ∃ c v, look ks ds k = some c ∧ DGet H a y (some v) ∧ R K mg G c v) := by
 obtain ⟨a, vs, rfl, l, e, q⟩ := h.dK
 refine ⟨a, rfl, ?_⟩
 rcases look_ok k q l with ⟨h1, h3⟩ | ⟨c, v, h1, h3, h4⟩
 ·exact .inl ⟨h1, .inl ⟨_, k, Rd.mono gh e, keyOf_ok h2 hk, h3.symm⟩⟩
 ·exact .inr ⟨c, v, h1, .inl ⟨_, k, Rd.mono gh e, keyOf_ok h2 hk, h3.symm⟩, h4⟩
theorem dget_T {K : PySem.W.Frag} {mg : Str → Option Value} {G H : Hp} (gh : Same G H) {ks : List (List Key)} {ds : List D} {d : List D} {k : List Key} {x y : V} (h : R K mg G (.dT ks ds) x) (h2 : R K mg G (.tup d) y) (hk : keysOf d = some k) :
  ∃ a, x = .ref a ∧ ((look ks ds k = none ∧ DGet H a y none) ∨ ∃ c v, look ks ds k = some c ∧ DGet H a y (some v) ∧ R K mg G c v) := by
 obtain ⟨a, vs, rfl, l, e, q⟩ := h.dT
 obtain ⟨b, us, rfl, _, e2, q2⟩ := h2.tup
 have eu := keysOf_ok q2 hk
 refine ⟨a, rfl, ?_⟩
 rcases look_ok k q l with ⟨h1, h3⟩ | ⟨c, v, h1, h3, h4⟩
 ·exact .inl ⟨h1, .inr ⟨_, k, b, Rd.mono gh e, rfl, by rw [← eu]; exact gh _ _ e2, h3.symm⟩⟩
 ·exact .inr ⟨c, v, h1, .inr ⟨_, k, b, Rd.mono gh e, rfl, by rw [← eu]; exact gh _ _ e2, h3.symm⟩, h4⟩
theorem ix_dict (hu : X.A.units + 64 < cLine) : IxR X (fun x y H Q => ∃ a v, x = .ref a ∧ DGet H a y (some v) ∧ Q v H) := by
 rintro value slice pins s σ H x y v u Q I rx ry ⟨a, z, rfl, g, q⟩ hs
 obtain rfl : v = Value.ref a := rx
 have hT := dict_typeIs I g
 unfold subscriptTail
 refine wpAny_bind ?_
 rw [getitemInPython_of_ne hT.not_modules]
 refine wpAny_bind (wpAny_specialOf hT PySem.F.slot_dict_getitem.lookup ?_)
 have fin : wpAny (model X.prog X.w) X.A (subscripted slice false (.ref a) u) (fun r s₃ => wpAny (model X.prog X.w) X.A (letTemporaryGo value (.ref a) r >>= fun _ => pure r) (EP X pins σ Q) X.xe s₃) X.xe s := by
  rw [hs]
  exact wpAny_operating (d_getItem (by omega) I g ry fun w' s3 I3 rw' => wpAny_bind (wpAny_letTemporaryGo (wpAny_pure ⟨z, H, I3, rw', q⟩)))
 first
  | exact wpAny_pure (wpAny_bind fin)
  | exact wpAny_bind (wpAny_pure (wpAny_bind fin))
  | exact wpAny_bind fin
theorem ix_ok (hu : X.A.units + 64 < cLine) : IxR X (rD X ixD) := by
 rintro value slice pins s σ H x y v u Q I rx ry ⟨G, d, e, c, gh, r1, r2, hg, k⟩ hs
 unfold ixD at hg
 split at hg
 ·obtain ⟨p, vs, rfl, _, e1, q1⟩ := r1.lst
  obtain ⟨w, h1, h2⟩ := q1.atI hg
  exact ix_list value slice pins s σ H _ y v u Q I rx ry ⟨p, vs, _, w, rfl, r2, SqL.of (gh _ _ e1), h1, k _ _ _ (Stp.refl gh) h2⟩ hs
 ·obtain ⟨p, vs, rfl, _, e1, q1⟩ := r1.tup
  obtain ⟨w, h1, h2⟩ := q1.atI hg
  exact ix_tup value slice pins s σ H _ y v u Q I rx ry ⟨p, vs, _, w, rfl, r2, SqT.of (gh _ _ e1), h1, k _ _ _ (Stp.refl gh) h2⟩ hs
 ·rename_i z i
  obtain ⟨rfl, z1, z2⟩ := r1
  obtain ⟨n, h1, rfl⟩ := Option.map_eq_some_iff.mp hg
  obtain ⟨j, _, h2, _⟩ := atI_get h1
  exact ix_str value slice pins s σ H _ y v u Q I rx ry ⟨z, i, n, rfl, r2, z1, h1, k _ _ _ (Stp.refl gh) ⟨rfl, sz_le (by show 1 ≤ _; decide), strOk_one z2 (List.mem_of_getElem? h2)⟩⟩ hs
 ·rename_i ns i
  obtain ⟨a, rfl, h⟩ := r1
  obtain ⟨n, h1, rfl⟩ := Option.map_eq_some_iff.mp hg
  exact ix_list value slice pins s σ H _ y v u Q I rx ry ⟨a, ns.map V.int, i, .int n, rfl, r2, gh.seq h, by rw [atI_map, h1]; rfl, k _ _ _ (Stp.refl gh) rfl⟩ hs
 ·rename_i d2 ks xs
  cases hk : keyOf e with
  | none => rw [hk] at hg; cases hg
  | some q =>
   rw [hk] at hg
   obtain ⟨a, rfl, h | ⟨c', w, h1, h2, h3⟩⟩ := dget_K gh r1 r2 hk
   ·rw [Option.bind_some, h.1] at hg; cases hg
   ·rw [Option.bind_some, h1] at hg; cases hg
    exact ix_dict hu value slice pins s σ H _ y v u Q I rx ry ⟨a, w, rfl, h2, k _ _ _ (Stp.refl gh) h3⟩ hs
 ·rename_i ks xs d2
  cases hk : keysOf d2 with
  | none => rw [hk] at hg; cases hg
  | some q =>
   rw [hk] at hg
   obtain ⟨a, rfl, h | ⟨c', w, h1, h2, h3⟩⟩ := dget_T gh r1 r2 hk
   ·rw [Option.bind_some, h.1] at hg; cases hg
   ·rw [Option.bind_some, h1] at hg; cases hg
    exact ix_dict hu value slice pins s σ H _ y v u Q I rx ry ⟨a, w, rfl, h2, k _ _ _ (Stp.refl gh) h3⟩ hs
 ·cases hg
theorem EF.ix (hu : X.A.units + 64 < cLine) (ha : EF X W a fa) (hb : EF X W b fb) (hs : PlainIx b := by intro _ _; rfl) : EF X W (.Subscript a b pos) (op2 ixD fa fb) := ⟨fun B => PE.mono (pe_ix (ix_ok hu) (ha.run B) (hb.run B) hs) fun σ H Q h => bin_next h⟩
theorem flat_V {K : PySem.W.Frag} {mg : Str → Option Value} {G : Hp} {d : D} {x : V} (f : flat d = true) (h : R K mg G d x) : flatV x = true := by
 cases d <;> first | cases f | skip
 ·rw [show x = .non from h]; rfl
 ·rw [show x = .bl _ from h]; rfl
 ·rw [show x = .int _ from h]; rfl
 ·rw [show x = .str _ from h.1]; rfl
theorem eqV_eqv {K : PySem.W.Frag} {mg : Str → Option Value} {G : Hp} {d e : D} {x y : V} (f : flat d = true) (f2 : flat e = true) (h : R K mg G d x) (h2 : R K mg G e y) : eqV x y = eqv d e := by
 cases d <;> first | cases f | skip
 all_goals cases e <;> first | cases f2 | skip
 all_goals
  first
   | (rw [show x = _ from h, show y = _ from h2]; simp [eqV, eqv])
   | (rw [show x = _ from h.1, show y = _ from h2]; simp [eqV, eqv])
   | (rw [show x = _ from h, show y = _ from h2.1]; simp [eqV, eqv])
   | (rw [show x = _ from h.1, show y = _ from h2.1]; simp [eqV, eqv])
theorem inV_ok {K : PySem.W.Frag} {mg : Str → Option Value} {G : Hp} {d : D} {x : V} (f : flat d = true) (h : R K mg G d x) : ∀ {ds : List D} {vs : List V}, ds.all flat = true → Rs K mg G ds vs → vs.all flatV = true ∧ inV x vs = ds.any fun y => eqv y d
 | [], vs, _, q => by rw [show vs = [] from q]; exact ⟨rfl, rfl⟩
 | e :: ds, _, g, ⟨v, r, eq, q, t⟩ => by
  subst eq
  rw [List.all_cons, Bool.and_eq_true] at g
  obtain ⟨a, b⟩ := inV_ok f h g.2 t
  unfold inV at b ⊢
  rw [List.all_cons, List.any_cons, List.any_cons, b, flat_V g.1 q, a, eqV_eqv g.1 f q h]
  exact ⟨rfl, rfl⟩
theorem in_gen {op : CmpOp} {neg : Bool} (hseq : OpR X (compareOp op) (rIn X.K neg)) (hstr : OpR X (compareOp op) (fun x y H Q => ∃ (c : Nat) (z : Str), x = .str ⟨#[c]⟩ ∧ y = .str z ∧ Q (.bl (if neg then !decide (c ∈ z.cps.toList) else decide (c ∈ z.cps.toList))) H))
  (hd : OpR X (compareOp op) (fun x y H Q => ∃ a o, y = .ref a ∧ DGet H a x o ∧ Q (.bl (if neg then !o.isSome else o.isSome)) H)) : OpD X (compareOp op) (fun x y => (inD x y).map fun b => .bl (if neg then !b else b)) := by
 rintro pins s σ H x y v u Q I rx ry ⟨G, d, e, c, gh, r1, r2, hg, k⟩
 obtain ⟨b, hb, rfl⟩ := Option.map_eq_some_iff.mp hg
 clear hg
 have hg := hb
 clear hb
 have fin : Q (.bl (if neg then !b else b)) H := k _ _ _ (Stp.refl gh) rfl
 unfold inD at hg
 split at hg
 ·split at hg
  ·rename_i ds p; cases hg
   rw [Bool.and_eq_true] at p
   obtain ⟨q, vs, rfl, _, e1, q1⟩ := r2.lst
   obtain ⟨h1, h2⟩ := inV_ok p.1 r1 p.2 q1
   exact hseq pins s σ H x _ v u Q I rx ry ⟨q, vs, rfl, .inl (SqL.of (gh _ _ e1)), flat_V p.1 r1, h1, by rw [h2]; exact fin⟩
  ·cases hg
 ·split at hg
  ·rename_i ds p; cases hg
   rw [Bool.and_eq_true] at p
   obtain ⟨q, vs, rfl, _, e1, q1⟩ := r2.tup
   obtain ⟨h1, h2⟩ := inV_ok p.1 r1 p.2 q1
   exact hseq pins s σ H x _ v u Q I rx ry ⟨q, vs, rfl, .inr (SqT.of (gh _ _ e1)), flat_V p.1 r1, h1, by rw [h2]; exact fin⟩
  ·cases hg
 ·split at hg
  ·rename_i a z hs; cases hg
   have ea : a = ⟨#[a.cps.getD 0 0]⟩ := by
    obtain ⟨cps⟩ := a
    obtain ⟨l⟩ := cps
    match l, hs with
    | [n], _ => rfl
   exact hstr pins s σ H x y v u Q I rx ry ⟨a.cps.getD 0 0, z, by rw [← ea]; exact r1.1, r2.1, fin⟩
  ·cases hg
 ·rename_i d2 ks xs
  cases hk : keyOf d with
  | none => rw [hk] at hg; cases hg
  | some q =>
   rw [hk] at hg; cases hg
   obtain ⟨a, rfl, h | ⟨c', w, h1, h2, h3⟩⟩ := dget_K gh r2 r1 hk
   ·rw [h.1] at fin
    exact hd pins s σ H x _ v u Q I rx ry ⟨a, _, rfl, h.2, fin⟩
   ·rw [h1] at fin
    exact hd pins s σ H x _ v u Q I rx ry ⟨a, _, rfl, h2, fin⟩
 ·rename_i d2 ks xs
  cases hk : keysOf d2 with
  | none => rw [hk] at hg; cases hg
  | some q =>
   rw [hk] at hg; cases hg
   obtain ⟨a, rfl, h | ⟨c', w, h1, h2, h3⟩⟩ := dget_T gh r2 r1 hk
   ·rw [h.1] at fin
    exact hd pins s σ H x _ v u Q I rx ry ⟨a, _, rfl, h.2, fin⟩
   ·rw [h1] at fin
    exact hd pins s σ H x _ v u Q I rx ry ⟨a, _, rfl, h2, fin⟩
 ·cases hg
theorem in_ok (hu : X.A.units + 64 < cLine) : OpD X (compareOp .In) inD1 := by
 have h := in_gen (X := X) (op := .In) (neg := false) op_in_seq op_in_sign (by
  rintro pins s σ H x y v u Q I rx ry ⟨a, o, rfl, g, q⟩
  obtain rfl : u = Value.ref a := ry
  exact d_in (by omega) I g rx fun s3 I3 => ⟨.bl o.isSome, H, I3, rfl, q⟩)
 exact h
def CallD (X : Cx) (f : Value) (g : List D → Option D) : Prop := CallR X f fun xs H Q => ∃ G ds c, Same G H ∧ Rs X.K X.mg G ds xs ∧ g ds = some c ∧ ∀ v G' H', Stp G H G' H' → R X.K X.mg G' c v → Q v H'
def CallO (X : Cx) (f : Value) (g : List D → Option OT) : Prop := CallR X f fun xs H Q => ∃ G ds c, Same G H ∧ Rs X.K X.mg G ds xs ∧ g ds = some c ∧ ∀ v G' H', Stp G H G' H' → relO X.K X.mg H G' H' c v → Q v H'
def cal {α : Type} (g : List D → Option α) (fs : En → Res (List D)) (ρ : En) : Res α := (fs ρ).bind fun xs => ofO (g xs)
section
variable {id T : String} {x : Str} {p : Pos} {g : List D → Option D} {go : List D → Option OT}
theorem cb_next {r : List V → Hp → VK → Prop} {B : Bs} {σ : L2.St} {H : Hp} {Q : VK} {α β : Type} {rel : Hp → Hp → Hp → α → V → Prop} (lt : Later rel) {g : List D → Option α} (hr : ∀ xs H Q G ds c, Same G H → Rs X.K X.mg G ds xs → g ds = some c → (∀ v G' H', Stp G H G' H' → rel H G' H' c v → Q v H') → r xs H Q)
  (h : lift X W rel B (cal g fs) σ H Q) : tCB r (lift X W (relL X.K X.mg) B fs) σ H Q := by
 obtain ⟨G, ρ, r, h⟩ := h
 refine lift.next (rel := relL X.K X.mg) (g := fun xs _ => ofO (g xs)) lt r h fun ds xs G1 H1 r1 s1 q1 w1 => ?_
 cases hg : g ds with
 | none => rw [hg] at w1; exact w1.elim
 | some c =>
  rw [hg] at w1
  exact hr xs H1 Q G1 ds c r1.gh q1 hg w1
theorem EF.callB (hc : CallD X (.builtin id) g) (hm : X.mg x = none) (hv : bootBuiltins x = some (.builtin id)) (ha : EA X W (e :: es) fs) (hg : Gl X x := by rfl) (hn : x ≠ "__name__" := by decide) (hdb : (x == ("__debug__" : Str)) = false := by decide)
  (he : starEach (e :: es) X.env = (false, eval e X.env) :: starEach es X.env := by rfl) (hpl : (backTo pos (starEach es X.env)).any (·.1) = false := by rfl) : EF X W (.Call (.Name x p) (e :: es) [] pos) (cal g fs) :=
 ⟨fun B => PE.mono (pe_callB hc hg hm hv (ha.run B) hn hdb he hpl) fun σ H Q h => cb_next (β := V) later_D (fun xs H Q G ds c gh q hg k => ⟨G, ds, c, gh, q, hg, k⟩) h⟩
theorem EF.callT (hc : CallD X (.type T) g) (hm : X.mg x = none) (hv : bootBuiltins x = some (.type T)) (ha : EA X W (e :: es) fs) (hg : Gl X x := by rfl) (hn : x ≠ "__name__" := by decide) (hdb : (x == ("__debug__" : Str)) = false := by decide)
  (he : starEach (e :: es) X.env = (false, eval e X.env) :: starEach es X.env := by rfl) (hpl : (backTo pos (starEach es X.env)).any (·.1) = false := by rfl) : EF X W (.Call (.Name x p) (e :: es) [] pos) (cal g fs) :=
 ⟨fun B => PE.mono (pe_callTy hc hg hm hv (ha.run B) hn hdb he hpl) fun σ H Q h => cb_next (β := V) later_D (fun xs H Q G ds c gh q hg k => ⟨G, ds, c, gh, q, hg, k⟩) h⟩
theorem EO.callT (hc : CallO X (.type T) go) (hm : X.mg x = none) (hv : bootBuiltins x = some (.type T)) (ha : EA X W (e :: es) fs) (hg : Gl X x := by rfl) (hn : x ≠ "__name__" := by decide) (hdb : (x == ("__debug__" : Str)) = false := by decide)
  (he : starEach (e :: es) X.env = (false, eval e X.env) :: starEach es X.env := by rfl) (hpl : (backTo pos (starEach es X.env)).any (·.1) = false := by rfl) : EO X W (.Call (.Name x p) (e :: es) [] pos) (cal go fs) :=
 ⟨fun B => PE.mono (pe_callTy hc hg hm hv (ha.run B) hn hdb he hpl) fun σ H Q h => cb_next (β := V) later_O (fun xs H Q G ds c gh q hg k => ⟨G, ds, c, gh, q, hg, k⟩) h⟩
end
def lenL : List D → Option D
 | [d] => lenD d
 | _ => none
theorem Rs.one {K : PySem.W.Frag} {mg : Str → Option Value} {G : Hp} {d : D} {vs : List V} (h : Rs K mg G [d] vs) : ∃ v, vs = [v] ∧ R K mg G d v := by
 obtain ⟨v, r, e, q, t⟩ := h
 rw [show r = [] from t] at e
 exact ⟨v, e, q⟩
theorem Rs.two {K : PySem.W.Frag} {mg : Str → Option Value} {G : Hp} {d d2 : D} {vs : List V} (h : Rs K mg G [d, d2] vs) : ∃ v w, vs = [v, w] ∧ R K mg G d v ∧ R K mg G d2 w := by
 obtain ⟨v, r, e, q, t⟩ := h
 obtain ⟨w, rfl, q2⟩ := Rs.one t
 exact ⟨v, w, e, q, q2⟩
theorem len_ok : CallD X (.builtin "len") lenL := by
 rintro pins s σ H xs us Q I r ⟨G, ds, c, gh, q, hg, k⟩
 unfold lenL at hg
 split at hg
 ·rename_i d
  obtain ⟨v, rfl, r1⟩ := q.one
  unfold lenD at hg
  split at hg
  ·cases hg
   obtain ⟨p, vs, rfl, _, e1, q1⟩ := r1.lst
   exact call_len_seq pins s σ H _ us Q I r ⟨p, vs, rfl, .inl (SqL.of (gh _ _ e1)), by rw [q1.len]; exact k _ _ _ (Stp.refl gh) rfl⟩
  ·cases hg
   obtain ⟨p, vs, rfl, _, e1, q1⟩ := r1.tup
   exact call_len_seq pins s σ H _ us Q I r ⟨p, vs, rfl, .inr (SqT.of (gh _ _ e1)), by rw [q1.len]; exact k _ _ _ (Stp.refl gh) rfl⟩
  ·cases hg
   obtain ⟨rfl, z1, z2⟩ := r1
   exact call_len_str pins s σ H _ us Q I r ⟨_, rfl, z1, k _ _ _ (Stp.refl gh) rfl⟩
  ·cases hg
   obtain ⟨a, rfl, h⟩ := r1
   exact call_len_seq pins s σ H _ us Q I r ⟨a, _, rfl, .inl (gh.seq h), by rw [List.length_map]; exact k _ _ _ (Stp.refl gh) rfl⟩
  ·cases hg
   obtain ⟨a, vs, rfl, l, e1, q1⟩ := r1.dK
   obtain ⟨u, rfl, ru⟩ := vals1 r
   cases ru
   refine d_len I (Rd.mono gh e1) fun t s' I' => ⟨.int _, H, I', ⟨t, rfl⟩, ?_⟩
   rw [List.length_zip, q1.len, l, Nat.min_self, ← l]
   exact k _ _ _ (Stp.refl gh) rfl
  ·cases hg
 ·cases hg
end
end FL
namespace FL
open PySem PySem.Spec PyProof.Rows L2
section
variable {K : PySem.W.Frag} {mg : Str → Option Value} {G H G' H' : Hp}
theorem ROs.dds : ∀ {ds : List D} {vs : List V}, Rs K mg G ds vs → ROs K mg G H (ds.map .d) vs []
 | [], _, h => ⟨h, rfl⟩
 | d :: ds, _, ⟨v, r, e, h, t⟩ => ⟨v, r, [], [], e, rfl, RO.dd h, ROs.dds t⟩
theorem ROs.append : ∀ {ts us : List OT} {vs ws : List V} {f1 f2 : List Addr}, ROs K mg G H ts vs f1 → ROs K mg G H us ws f2 → ROs K mg G H (ts ++ us) (vs ++ ws) (f1 ++ f2)
 | [], _, _, _, _, _, h, q => by rw [h.1, h.2]; exact q
 | t :: ts, _, _, _, _, _, ⟨v, r, g1, g2, e, e2, h, s⟩, q => by
  rw [e, e2, List.append_assoc]
  exact ⟨v, _, g1, _, rfl, rfl, h, ROs.append s q⟩
theorem ROs.one {t : OT} {v : V} {fp : List Addr} (h : RO K mg G H t v fp) : ROs K mg G H [t] [v] fp := ⟨v, [], fp, [], rfl, by rw [List.append_nil], h, rfl, rfl⟩
theorem relO.newL {ds : List D} {vs : List V} {p : Addr} (g : Same G H) (n : H p = none) (l : ds.length ≤ sizeLine) (h : Rs K mg G ds vs) : relO K mg H G (upd H p (.lst vs)) (.lst (ds.map .d)) (.ref p) :=
 ⟨[p], ⟨p, vs, [], rfl, rfl, by rw [List.length_map]; exact l, upd_same, ROs.dds h⟩, by simp, fun q hq => by rw [List.mem_singleton.mp hq]; exact ⟨n, .inl (g.free n)⟩⟩
end
section
variable {X : Cx} {W : WW} {a b e : Expr} {es : List Expr} {fa fb fc : En → Res D} {fs : En → Res (List D)} {pos : Pos}
def mkL (ds : List D) : Option D := if ds.length ≤ 16777216 then some (.lst ds) else none
def mkT (ds : List D) : Option D := if ds.length ≤ 16777216 then some (.tup ds) else none
def mkO (ds : List D) : Option OT := if ds.length ≤ 16777216 then some (.lst (ds.map .d)) else none
theorem EF.lst (ha : EA X W es fs) : EF X W (.List es pos) (cal mkL fs) := ⟨fun B => PE.mono (pe_lst (ha.run B)) fun σ H Q ⟨G, ρ, r, h⟩ =>
 lift.next (rel := relL X.K X.mg) (g := fun xs _ => ofO (mkL xs)) later_D r h fun ds xs G1 H1 r1 s1 q1 w1 => by
  unfold mkL at w1
  split at w1
  ·rename_i hl
   exact ⟨by rw [q1.len]; exact sz_le hl, fun p hp => w1.ok (Stp.new r1.gh hp) (R.newL (r1.gh.free hp) (sz_le hl) q1)⟩
  ·exact w1.elim⟩
theorem EF.tup {n} (ha : EA X W es fs) : EF X W (.Tuple es n pos) (cal mkT fs) := ⟨fun B => PE.mono (pe_tup (ha.run B)) fun σ H Q ⟨G, ρ, r, h⟩ =>
 lift.next (rel := relL X.K X.mg) (g := fun xs _ => ofO (mkT xs)) later_D r h fun ds xs G1 H1 r1 s1 q1 w1 => by
  unfold mkT at w1
  split at w1
  ·rename_i hl
   exact ⟨by rw [q1.len]; exact sz_le hl, fun p hp => w1.ok (Stp.new r1.gh hp) (R.newT (r1.gh.free hp) (sz_le hl) q1)⟩
  ·exact w1.elim⟩
theorem EO.lst (ha : EA X W es fs) : EO X W (.List es pos) (cal mkO fs) := ⟨fun B => PE.mono (pe_lst (ha.run B)) fun σ H Q ⟨G, ρ, r, h⟩ =>
 lift.next (rel := relL X.K X.mg) (g := fun xs _ => ofO (mkO xs)) later_O r h fun ds xs G1 H1 r1 s1 q1 w1 => by
  unfold mkO at w1
  split at w1
  ·rename_i hl
   exact ⟨by rw [q1.len]; exact sz_le hl, fun p hp => w1.ok (Stp.own r1.gh hp) (relO.newL r1.gh hp (sz_le hl) q1)⟩
  ·exact w1.elim⟩
def cutL {α : Type} (xs : List α) (lo hi : Option Int) : List α := (xs.drop (HT.sIx xs.length 0 lo)).take (HT.sIx xs.length xs.length hi - HT.sIx xs.length 0 lo)
def noP (_ : En) : Res (Option Int) := .ok none
def asI : D → Res Int
 | .int i => .ok i
 | _ => .bad
def part (f : En → Res D) (ρ : En) : Res (Option Int) := (f ρ).bind fun d => (asI d).bind fun i => .ok (some i)
structure EP' (X : Cx) (W : WW) (o : Option Expr) (f : En → Res (Option Int)) : Prop where
 run : ∀ B, PO X o (lift X W (fun _ _ _ a b => b = a) B f)
theorem PO.mono {o : Option Expr} {t t' : TO} (h : PO X o t) (i : ∀ σ H Q, t' σ H Q → t σ H Q) : PO X o t' := by
 obtain ⟨h⟩ := h
 constructor
 intros
 apply h <;> first | assumption | (apply i; assumption)
theorem EP'.p0 : EP' X W none noP := ⟨fun B => PO.mono po_none fun σ H Q ⟨G, ρ, r, h⟩ => h.ok (Stp.refl r.gh) rfl⟩
theorem EP'.p1 (h : EF X W e fa) : EP' X W (some e) (part fa) := ⟨fun B => PO.mono (po_some (h.run B)) fun σ H Q ⟨G, ρ, r, h⟩ =>
 lift.next (rel := relD X.K X.mg) (g := fun d _ => (asI d).bind fun i => .ok (some i)) (fun _ _ _ _ _ _ _ h => h) r h fun d x G1 H1 r1 s1 q1 w1 => by
  cases d <;> first | exact w1.elim | skip
  exact ⟨_, q1, Wr.ok (rel := fun _ _ _ a b => b = a) (k := fun _ v _ H' => Q v H') w1 (Stp.refl r1.gh) rfl⟩⟩
def slD (d : D) (lo hi : Option Int) : Option D := match d with
 | .lst xs => some (.lst (cutL xs lo hi))
 | .str z => some (.str (cutS z lo hi))
 | .tup xs => some (.tup (cutL xs lo hi))
 | _ => none
def sli (fa : En → Res D) (fl fh : En → Res (Option Int)) (ρ : En) : Res D := (fa ρ).bind fun d => (fl ρ).bind fun lo => (fh ρ).bind fun hi => ofO (slD d lo hi)
theorem Rs.cut {K : PySem.W.Frag} {mg : Str → Option Value} {G : Hp} {ds : List D} {vs : List V} {lo hi : Option Int} (h : Rs K mg G ds vs) : Rs K mg G (cutL ds lo hi) (cutV vs lo hi) := by
 unfold cutL cutV
 rw [h.len]
 exact (h.drop _).take _
theorem cutL_whole {α : Type} {xs : List α} {lo hi : Option Int} (h : HT.sIx xs.length 0 lo = 0 ∧ HT.sIx xs.length xs.length hi = xs.length) : cutL xs lo hi = xs := by
 unfold cutL
 rw [h.1, h.2, List.drop_zero, Nat.sub_zero, List.take_of_length_le (Nat.le_refl _)]
theorem cutL_length {α : Type} (xs : List α) (lo hi : Option Int) : (cutL xs lo hi).length ≤ xs.length := by
 unfold cutL
 rw [List.length_take, List.length_drop]
 omega
theorem strOk_cut {z : Str} {lo hi : Option Int} (h : PyData.strOk z = true) : PyData.strOk (cutS z lo hi) = true := by
 unfold PyData.strOk cutS at *
 rw [← Array.all_toList] at *
 rw [List.toList_toArray]
 exact List.all_eq_true.mpr fun c hc => List.all_eq_true.mp h c (List.mem_of_mem_drop (List.mem_of_mem_take hc))
theorem sl_ok : SlR X (fun x lo hi H Q => ∃ G d c, Same G H ∧ R X.K X.mg G d x ∧ slD d lo hi = some c ∧ ∀ v G' H', Stp G H G' H' → R X.K X.mg G' c v → Q v H') := by
 have h := (sl_list (X := X)).or (sl_str.or sl_tupA)
 intro pins s σ H x v vl vu lo hi sl Q I rx hs pl pu ⟨G, d, c, gh, r, hg, k⟩
 refine h pins s σ H x v vl vu lo hi sl Q I rx hs pl pu ?_
 unfold slD at hg
 split at hg
 ·cases hg
  obtain ⟨p, vs, rfl, l, e1, q1⟩ := r.lst
  exact .inl ⟨p, vs, rfl, SqL.of (gh _ _ e1), fun q hq => k _ _ _ (Stp.new gh hq) (R.newL (gh.free hq) (Nat.le_trans (cutL_length _ _ _) l) q1.cut)⟩
 ·cases hg
  obtain ⟨rfl, z1, z2⟩ := r
  exact .inr (.inl ⟨_, rfl, z1, k _ _ _ (Stp.refl gh) ⟨rfl, Nat.le_trans (cutS_length _ _ _) z1, strOk_cut z2⟩⟩)
 ·cases hg
  obtain ⟨p, vs, rfl, l, e1, q1⟩ := r.tup
  refine .inr (.inr ⟨p, vs, rfl, SqT.of (gh _ _ e1), fun hw => ?_, fun _ q hq => k _ _ _ (Stp.new gh hq) (R.newT (gh.free hq) (Nat.le_trans (cutL_length _ _ _) l) q1.cut)⟩)
  refine k _ _ _ (Stp.refl gh) ?_
  rw [cutL_whole (by rw [← q1.len]; exact hw)]
  exact ⟨p, vs, rfl, l, e1, q1⟩
 ·cases hg
theorem EF.sli {lo hi : Option Expr} {p2 : Pos} {fl fh : En → Res (Option Int)} (ha : EF X W a fa) (hl : EP' X W lo fl) (hh : EP' X W hi fh) : EF X W (.Subscript a (.Slice lo hi none p2) pos) (sli fa fl fh) := ⟨fun B => PE.mono (pe_slice sl_ok (ha.run B) (hl.run B) (hh.run B)) fun σ H Q ⟨G, ρ, r, h⟩ =>
 lift.next (rel := relD X.K X.mg) (g := fun d ρ => (fl ρ).bind fun lo => (fh ρ).bind fun hi => ofO (slD d lo hi)) later_D r h fun d x G1 H1 r1 s1 q1 w1 =>
  lift.next (rel := fun _ _ _ a b => b = a) (g := fun lo ρ => (fh ρ).bind fun hi => ofO (slD d lo hi)) later_D r1 w1 fun lo lo' G2 H2 r2 s2 q2 w2 =>
   lift.next (rel := fun _ _ _ a b => b = a) (g := fun hi _ => ofO (slD d lo hi)) later_D r2 w2 fun hi hi' G3 H3 r3 s3 q3 w3 => by
    cases q2; cases q3
    cases hg : slD d lo hi with
    | none => rw [hg] at w3; exact w3.elim
    | some c => rw [hg] at w3; exact ⟨G3, d, c, r3.gh, R.mono (s2.gg.trans s3.gg) q1, hg, w3⟩⟩
end
def Walks (K : PySem.W.Frag) (mg : Str → Option Value) (J : It) (G1 : Hp) (ds : List D) : Prop := ∀ i G H, Same G1 G → Same G H → (ds.length ≤ i → J.stop i H) ∧ ∀ d, ds[i]? = some d → J.go i H ∧ ∀ x H', J.yld i H x H' → ∃ G', Stp G H G' H' ∧ R K mg G' d x
def relI (K : PySem.W.Frag) (mg : Str → Option Value) (_ G1 _ : Hp) (ds : List D) (J : It) : Prop := ds.length ≤ sizeLine ∧ Walks K mg J G1 ds
theorem later_I {K : PySem.W.Frag} {mg : Str → Option Value} : Later (relI K mg) := fun _ _ _ _ _ _ _ h => h
structure EI (X : Cx) (W : WW) (tg e : Expr) (f : En → Res (List D)) : Prop where
 run : ∀ B, PI X tg e (lift X W (relI X.K X.mg) B f)
theorem PI.mono {X : Cx} {tg e : Expr} {t t' : TI} (h : PI X tg e t) (i : ∀ σ H Q, t' σ H Q → t σ H Q) : PI X tg e t' := ⟨fun pins s σ H R I q => h.run pins s σ H R I (i _ _ _ q)⟩
section
variable {X : Cx} {W : WW} {tg a b e : Expr} {fa fb fc : En → Res D} {pos : Pos} {K : PySem.W.Frag} {mg : Str → Option Value}
def itL : D → Option (List D)
 | .lst xs => some xs
 | _ => none
def itT : D → Option (List D)
 | .tup xs => some xs
 | _ => none
def itS : D → Option (List D)
 | .str z => some (z.cps.toList.map fun c => .str ⟨#[c]⟩)
 | _ => none
def it1 (g : D → Option (List D)) (f : En → Res D) (ρ : En) : Res (List D) := (f ρ).bind fun d => ofO (g d)
theorem walks_list {G : Hp} {p : Addr} {ds : List D} {vs : List V} (e : G p = some (.lst vs)) (q : Rs K mg G ds vs) : Walks K mg (Itl K p) G ds := fun i G' H g gh => by
 have sq : SqL K H p vs := SqL.of (gh _ _ (g _ _ e))
 refine ⟨fun hl => ⟨vs, sq, by rw [q.len]; exact hl⟩, fun d hd => ?_⟩
 obtain ⟨v, h1, h2⟩ := q.get hd
 refine ⟨⟨vs, v, sq, h1⟩, fun x H' ⟨e1, y⟩ => ?_⟩
 subst e1
 have ex := y vs sq
 rw [h1] at ex
 cases ex
 exact ⟨G', Stp.refl gh, R.mono g h2⟩
theorem walks_tup {G : Hp} {p : Addr} {ds : List D} {vs : List V} (e : G p = some (.tup vs)) (q : Rs K mg G ds vs) : Walks K mg (Itt K p) G ds := fun i G' H g gh => by
 have sq : SqT K H p vs := SqT.of (gh _ _ (g _ _ e))
 refine ⟨fun hl => ⟨vs, sq, by rw [q.len]; exact hl⟩, fun d hd => ?_⟩
 obtain ⟨v, h1, h2⟩ := q.get hd
 refine ⟨⟨vs, v, sq, h1⟩, fun x H' ⟨e1, y⟩ => ?_⟩
 subst e1
 have ex := y vs sq
 rw [h1] at ex
 cases ex
 exact ⟨G', Stp.refl gh, R.mono g h2⟩
theorem EI.list (h : EF X W e fa) : EI X W tg e (it1 itL fa) := ⟨fun B => PI.mono (pi_list (h.run B)) fun σ H Q ⟨G, ρ, r, h⟩ =>
 lift.next (rel := relD X.K X.mg) (g := fun d _ => ofO (itL d)) later_I r h fun d x G1 H1 r1 s1 q1 w1 => by
  cases d <;> first | exact w1.elim | skip
  obtain ⟨p, vs, rfl, l, e1, q⟩ := q1.lst
  exact ⟨p, rfl, ⟨vs, SqL.of (r1.gh _ _ e1)⟩, Wr.ok w1 (Stp.refl r1.gh) ⟨l, walks_list e1 q⟩⟩⟩
theorem EI.tup (h : EF X W e fa) : EI X W tg e (it1 itT fa) := ⟨fun B => PI.mono (pi_tup (h.run B)) fun σ H Q ⟨G, ρ, r, h⟩ =>
 lift.next (rel := relD X.K X.mg) (g := fun d _ => ofO (itT d)) later_I r h fun d x G1 H1 r1 s1 q1 w1 => by
  cases d <;> first | exact w1.elim | skip
  obtain ⟨p, vs, rfl, l, e1, q⟩ := q1.tup
  exact ⟨p, rfl, ⟨vs, SqT.of (r1.gh _ _ e1)⟩, Wr.ok w1 (Stp.refl r1.gh) ⟨l, walks_tup e1 q⟩⟩⟩
theorem EI.str (h : EF X W e fa) : EI X W tg e (it1 itS fa) := ⟨fun B => PI.mono (pi_str (h.run B)) fun σ H Q ⟨G, ρ, r, h⟩ =>
 lift.next (rel := relD X.K X.mg) (g := fun d _ => ofO (itS d)) later_I r h fun d x G1 H1 r1 s1 q1 w1 => by
  cases d <;> first | exact w1.elim | skip
  rename_i z
  obtain ⟨rfl, z1, z2⟩ := q1
  refine ⟨z, rfl, Wr.ok w1 (Stp.refl r1.gh) ⟨by rw [List.length_map]; exact z1, fun i G H g gh => ⟨fun hl => ?_, fun d hd => ?_⟩⟩⟩
  ·rw [List.length_map, Array.length_toList] at hl
   exact hl
  ·rw [List.getElem?_map] at hd
   obtain ⟨n, h1, rfl⟩ := Option.map_eq_some_iff.mp hd
   have hi : i < z.cps.size := by
    have := (List.getElem?_eq_some_iff.mp h1).1
    rwa [Array.length_toList] at this
   refine ⟨hi, fun x H' ⟨e1, n', h2, e2⟩ => ?_⟩
   rw [← Array.getElem?_toList, h1] at h2
   cases h2
   subst e1 e2
   exact ⟨G, Stp.refl gh, rfl, sz_le (by show 1 ≤ _; decide), strOk_one z2 (List.mem_of_getElem? h1)⟩⟩
def rngL (lo c : Int) (n : Nat) : List D := (List.range n).map fun (i : Nat) => D.int (lo + (i : Int) * c)
def rg1 : List D → Option (List D)
 | [.int j] => if -4000000000 ≤ j ∧ j ≤ 16777216 then some (rngL 0 1 j.toNat) else none
 | _ => none
def rg2 : List D → Option (List D)
 | [.int i, .int j] => if -4000000000 ≤ i ∧ i ≤ 4000000000 ∧ j ≤ 4000000000 ∧ -4000000000 ≤ j ∧ j - i ≤ 16777216 then some (rngL i 1 (j - i).toNat) else none
 | _ => none
def rg3 : List D → Option (List D)
 | [.int i, .int j, .int c] => if c = -1 ∧ -4000000000 ≤ i ∧ i ≤ 4000000000 ∧ j ≤ 4000000000 ∧ -4000000000 ≤ j ∧ i - j ≤ 16777216 then some (rngL i (-1) (i - j).toNat) else none
 | _ => none
def itA (g : List D → Option (List D)) (fs : En → Res (List D)) (ρ : En) : Res (List D) := (fs ρ).bind fun ds => ofO (g ds)
theorem walks_rng {G : Hp} {lo : Int} {n : Nat} : Walks K mg (Itr lo n) G (rngL lo 1 n) := fun i G' H g gh => by
 refine ⟨fun hl => ?_, fun d hd => ?_⟩
 ·show n ≤ i
  rw [rngL, List.length_map, List.length_range] at hl
  exact hl
 ·rw [rngL, List.getElem?_map] at hd
  obtain ⟨k, h1, rfl⟩ := Option.map_eq_some_iff.mp hd
  obtain ⟨h2, h3⟩ := List.getElem?_eq_some_iff.mp h1
  rw [List.getElem_range] at h3
  rw [List.length_range] at h2
  subst h3
  refine ⟨h2, fun x H' ⟨e1, e2⟩ => ?_⟩
  subst e1 e2
  exact ⟨G', Stp.refl gh, by show V.int _ = V.int _; rw [Int.mul_one]⟩
theorem walks_rngC {G : Hp} {lo c : Int} {n : Nat} : Walks K mg (Itc lo c n) G (rngL lo c n) := fun i G' H g gh => by
 refine ⟨fun hl => ?_, fun d hd => ?_⟩
 ·show n ≤ i
  rw [rngL, List.length_map, List.length_range] at hl
  exact hl
 ·rw [rngL, List.getElem?_map] at hd
  obtain ⟨k, h1, rfl⟩ := Option.map_eq_some_iff.mp hd
  obtain ⟨h2, h3⟩ := List.getElem?_eq_some_iff.mp h1
  rw [List.getElem_range] at h3
  rw [List.length_range] at h2
  subst h3
  refine ⟨h2, fun x H' ⟨e1, e2⟩ => ?_⟩
  subst e1 e2
  exact ⟨G', Stp.refl gh, rfl⟩
theorem rngL_len (lo c : Int) (n : Nat) : (rngL lo c n).length = n := by rw [rngL, List.length_map, List.length_range]
section
variable {fs : En → Res (List D)} {p : Pos}
theorem EI.rg1 (hm : X.mg "range" = none) (ha : EA X W [a] fs) (hg : Gl X "range" := by rfl) (hs : starEach [a] X.env = [(false, eval a X.env)] := by rfl) : EI X W tg (.Call (.Name "range" p) [a] [] pos) (itA rg1 fs) := ⟨fun B => PI.mono (pi_range1 hg hm (ha.run B) hs) fun σ H Q ⟨G, ρ, r, h⟩ =>
 lift.next (rel := relL X.K X.mg) (g := fun d _ => ofO (FL.rg1 d)) later_I r h fun ds xs G1 H1 r1 s1 q1 w1 => by
  unfold FL.rg1 at w1
  split at w1
  ·split at w1
   ·rename_i j hj
    obtain ⟨v, rfl, q⟩ := q1.one
    cases q
    exact ⟨j, rfl, by omega, by omega, Wr.ok w1 (Stp.refl r1.gh) ⟨by rw [rngL_len]; exact sz_le (by omega), walks_rng⟩⟩
   ·exact w1.elim
  ·exact w1.elim⟩
theorem EI.rg2 (hm : X.mg "range" = none) (ha : EA X W [a, b] fs) (hg : Gl X "range" := by rfl) (hs : starEach [a, b] X.env = [(false, eval a X.env), (false, eval b X.env)] := by rfl) (hs2 : starEach [b] X.env = [(false, eval b X.env)] := by rfl) :
  EI X W tg (.Call (.Name "range" p) [a, b] [] pos) (itA rg2 fs) := ⟨fun B => PI.mono (pi_range2 hg hm (ha.run B) hs hs2) fun σ H Q ⟨G, ρ, r, h⟩ =>
 lift.next (rel := relL X.K X.mg) (g := fun d _ => ofO (FL.rg2 d)) later_I r h fun ds xs G1 H1 r1 s1 q1 w1 => by
  unfold FL.rg2 at w1
  split at w1
  ·split at w1
   ·rename_i i j hj
    obtain ⟨v, w, rfl, q, q2⟩ := q1.two
    cases q; cases q2
    exact ⟨i, j, rfl, ⟨by omega, by omega, by omega, by omega⟩, Wr.ok w1 (Stp.refl r1.gh) ⟨by rw [rngL_len]; exact sz_le (by omega), walks_rng⟩⟩
   ·exact w1.elim
  ·exact w1.elim⟩
theorem EI.rg3 {c : Expr} (hm : X.mg "range" = none) (ha : EA X W [a, b, c] fs) (hg : Gl X "range" := by rfl) (hs : starEach [a, b, c] X.env = (false, eval a X.env) :: starEach [b, c] X.env := by rfl) (hpl : (backTo pos (starEach [b, c] X.env)).any (·.1) = false := by rfl) :
  EI X W tg (.Call (.Name "range" p) [a, b, c] [] pos) (itA rg3 fs) := ⟨fun B => PI.mono (pi_range3 hg hm (ha.run B) hs hpl) fun σ H Q ⟨G, ρ, r, h⟩ =>
 lift.next (rel := relL X.K X.mg) (g := fun d _ => ofO (FL.rg3 d)) later_I r h fun ds xs G1 H1 r1 s1 q1 w1 => by
  unfold FL.rg3 at w1
  split at w1
  ·split at w1
   ·rename_i i j c hj
    obtain ⟨v, r, e, q, t⟩ := q1
    obtain ⟨w, z, rfl, q2, q3⟩ := t.two
    cases q; cases q2; cases q3
    subst e
    rw [hj.1]
    exact ⟨i, j, -1, _, rfl, RgC.neg (by omega) (by omega) (by omega) (by omega), Wr.ok w1 (Stp.refl r1.gh) ⟨by rw [rngL_len]; exact sz_le (by omega), walks_rngC⟩⟩
   ·exact w1.elim
  ·exact w1.elim⟩
def ziL : List D → List D → List D
 | x :: xs, y :: ys => .tup [x, y] :: ziL xs ys
 | _, _ => []
theorem ziL_len : ∀ (xs ys : List D), (ziL xs ys).length = min xs.length ys.length
 | [], ys => by simp [ziL]
 | x :: xs, [] => by simp [ziL]
 | x :: xs, y :: ys => by rw [ziL, List.length_cons, List.length_cons, List.length_cons, ziL_len]; omega
theorem ziL_get : ∀ (j : Nat) (xs ys : List D) (d : D), (ziL xs ys)[j]? = some d → ∃ x y, xs[j]? = some x ∧ ys[j]? = some y ∧ d = .tup [x, y]
 | _, [], ys, d, h => by simp [ziL] at h
 | _, x :: xs, [], d, h => by simp [ziL] at h
 | 0, x :: xs, y :: ys, d, h => by simp [ziL] at h; exact ⟨x, y, rfl, rfl, h.symm⟩
 | j + 1, x :: xs, y :: ys, d, h => by
  rw [ziL, List.getElem?_cons_succ] at h
  exact ziL_get j xs ys d h
def ziI : List D → Option (List D)
 | [.lst xs, .lst ys] => some (ziL xs ys)
 | _ => none
theorem EI.zip {elts : List Expr} {kk : Nat} {tpos : Pos} (hm : X.mg "zip" = none) (ha : EA X W [a, b] fs) (hg : Gl X "zip" := by rfl) (hs : starEach [a, b] X.env = (false, eval a X.env) :: starEach [b] X.env := by rfl) (hpl : (backTo pos (starEach [b] X.env)).any (·.1) = false := by rfl) :
  EI X W (.Tuple elts kk tpos) (.Call (.Name "zip" p) [a, b] [] pos) (itA ziI fs) := ⟨fun B => PI.mono (pi_zip hg hm (ha.run B) hs hpl) fun σ H Q ⟨G, ρ, r, h⟩ =>
 lift.next (rel := relL X.K X.mg) (g := fun d _ => ofO (FL.ziI d)) later_I r h fun ds xs G1 H1 r1 s1 q1 w1 => by
  unfold FL.ziI at w1
  split at w1
  ·obtain ⟨v, w, rfl, q, q'⟩ := q1.two
   obtain ⟨p, vs, rfl, l, e1, q⟩ := q.lst
   obtain ⟨p', ws, rfl, l', e1', q'⟩ := q'.lst
   refine ⟨p, p', vs, ws, rfl, SqL.of (r1.gh _ _ e1), SqL.of (r1.gh _ _ e1'), Wr.ok w1 (Stp.refl r1.gh) ⟨by rw [ziL_len]; omega, fun i G' H g gh => ?_⟩⟩
   have sq : SqL X.K H p vs := SqL.of (gh _ _ (g _ _ e1))
   have sq' : SqL X.K H p' ws := SqL.of (gh _ _ (g _ _ e1'))
   refine ⟨fun hl => ⟨vs, ws, sq, sq', by rw [q.len, q'.len]; rw [ziL_len] at hl; omega⟩, fun d hd => ?_⟩
   obtain ⟨x, y, hx, hy, rfl⟩ := ziL_get _ _ _ _ hd
   obtain ⟨v, h1, h2⟩ := q.get hx
   obtain ⟨v', h1', h2'⟩ := q'.get hy
   refine ⟨⟨vs, ws, v, v', sq, sq', h1, h1'⟩, fun x H' ⟨T, y, y', e1, nT, e2, hy, hy'⟩ => ?_⟩
   subst e1 e2
   have ex := hy vs sq
   rw [h1] at ex
   cases ex
   have ex := hy' ws sq'
   rw [h1'] at ex
   cases ex
   exact ⟨_, Stp.new gh nT, R.newT (gh.free nT) (sz_le (by show 2 ≤ _; decide)) ⟨_, _, rfl, R.mono g h2, _, _, rfl, R.mono g h2', rfl⟩⟩
  ·exact w1.elim⟩
end
end
end FL
namespace FL
open PySem PySem.Spec PyProof.Rows L2
def wipeE (ρ : En) : List Nat → En
 | [] => ρ
 | v :: vs => (wipeE ρ vs).set v none
theorem wipeE_len (ρ : En) : ∀ vs : List Nat, (wipeE ρ vs).length = ρ.length
 | [] => rfl
 | v :: vs => by rw [wipeE, List.length_set, wipeE_len ρ vs]
theorem wipe_set {σ : L2.St} {i : Nat} {x : Option V} : ∀ {vs : List Nat}, i ∈ vs → wipe (σ.set i x) vs = wipe σ vs
 | [], h => by cases h
 | w :: vs, h => by
  unfold wipe
  by_cases e : i ∈ vs
  ·rw [wipe_set e]
  ·have e1 : i = w := by
    rcases List.mem_cons.mp h with h | h
    ·exact h
    ·exact absurd h e
   subst e1
   have key : ∀ us : List Nat, i ∉ us → wipe (σ.set i x) us = (wipe σ us).set i x := by
    intro us
    induction us with
    | nil => intro _; rfl
    | cons u us ih =>
     intro hu
     rw [List.mem_cons, not_or] at hu
     unfold wipe
     rw [ih hu.2, List.set_comm _ _ hu.1]
   rw [key vs e, List.set_set]
theorem wipe_none {σ : L2.St} {v : Nat} : ∀ {vs : List Nat}, v ∈ vs → (wipe σ vs).set v none = wipe σ vs
 | [], h => by cases h
 | w :: vs, h => by
  unfold wipe
  by_cases e : v = w
  ·rw [e, List.set_set]
  ·rw [List.set_comm _ _ (fun z => e z.symm), wipe_none (by
    rcases List.mem_cons.mp h with h | h
    ·exact absurd h e
    ·exact h)]
theorem wipe_sub {σ : L2.St} {vs : List Nat} : ∀ {us : List Nat}, (∀ u ∈ us, u ∈ vs) → wipe (wipe σ vs) us = wipe σ vs
 | [], _ => rfl
 | u :: us, h => by
  rw [wipe, wipe_sub (fun x hx => h x (List.mem_cons_of_mem _ hx)), wipe_none (h u List.mem_cons_self)]
theorem wipe_wipe {σ : L2.St} {vs : List Nat} : wipe (wipe σ vs) vs = wipe σ vs := wipe_sub fun _ h => h
def B0 : Bs := ⟨fun _ => none, fun _ => none, []⟩
section
variable {K : PySem.W.Frag} {mg : Str → Option Value} {B : Bs} {G H G' H' : Hp} {σ : L2.St} {ρ : En}
theorem Rep.wipe (r : Rep K mg B G H σ ρ) (vs : List Nat) : Rep K mg B0 G H (L2.wipe σ vs) (wipeE ρ vs) := by
 obtain ⟨F, f⟩ := r.sl
 refine ⟨⟨r.g.gh, fun _ _ h => (nomatch h), fun _ _ h => (nomatch h), fun _ h => absurd rfl h, fun q h => by cases h⟩, by rw [wipeE_len, wipe_length]; exact r.len, F, fun i t e => ?_, f.nd, fun i p hp => ⟨(f.at_ i p hp).1, (f.at_ i p hp).2.1, rfl⟩, f.dj⟩
 have key : ∀ us : List Nat, (wipeE ρ us)[i]? = some (some t) → ρ[i]? = some (some t) ∧ i ∉ us := by
  intro us
  induction us with
  | nil => intro h; exact ⟨h, by simp⟩
  | cons u us ih =>
   intro h
   unfold wipeE at h
   rcases get_set h with ⟨_, _, e⟩ | ⟨ne, e⟩
   ·cases e
   ·obtain ⟨a, b⟩ := ih e
    exact ⟨a, by rw [List.mem_cons, not_or]; exact ⟨fun z => ne z.symm, b⟩⟩
 obtain ⟨e1, ni⟩ := key vs e
 obtain ⟨v, a, b⟩ := f.rep i t e1
 refine ⟨v, ?_, b⟩
 have key2 : ∀ us : List Nat, i ∉ us → (L2.wipe σ us)[i]? = σ[i]? := by
  intro us
  induction us with
  | nil => intro _; rfl
  | cons u us ih =>
   intro hu
   rw [List.mem_cons, not_or] at hu
   unfold L2.wipe
   rw [List.getElem?_set_ne (fun z => hu.1 z.symm)]
   exact ih hu.2
 rw [key2 vs ni]; exact a
end
structure EG (X : Cx) (vs : List Nat) (tg : Expr) (g : D → En → Option En) : Prop where
 run : ∀ B, (∀ q ∈ B.io, q.1 ∉ vs) → PG X tg fun v σ H Q => ∃ G ρ d ρ', Rep X.K X.mg B G H σ ρ ∧ R X.K X.mg G d v ∧ g d ρ = some ρ' ∧ ∀ σ', Rep X.K X.mg B G H σ' ρ' → wipe σ' vs = wipe σ vs → Q σ' H
structure EGs (X : Cx) (vs : List Nat) (ts : List Expr) (g : List D → En → Option En) : Prop where
 run : ∀ B, (∀ q ∈ B.io, q.1 ∉ vs) → PGs X ts fun xs σ H Q => ∃ G ρ ds ρ', Rep X.K X.mg B G H σ ρ ∧ Rs X.K X.mg G ds xs ∧ g ds ρ = some ρ' ∧ ∀ σ', Rep X.K X.mg B G H σ' ρ' → wipe σ' vs = wipe σ vs → Q σ' H
theorem PG.mono {X : Cx} {tg : Expr} {t t' : TG} (h : PG X tg t) (i : ∀ v σ H Q, t' v σ H Q → t v σ H Q) : PG X tg t' := ⟨fun pins s σ H v u Q I r q => h.run pins s σ H v u Q I r (i _ _ _ _ q)⟩
theorem PGs.mono {X : Cx} {tg : List Expr} {t t' : TGs} (h : PGs X tg t) (i : ∀ v σ H Q, t' v σ H Q → t v σ H Q) : PGs X tg t' := ⟨fun pins s σ H v u Q I r q => h.run pins s σ H v u Q I r (i _ _ _ _ q)⟩
def sN (i : Nat) (d : D) (ρ : En) : Option En := some (ρ.set i (some (.d d)))
def sNil (ds : List D) (ρ : En) : Option En := match ds with
 | [] => some ρ
 | _ => none
def sCons (g : D → En → Option En) (gs : List D → En → Option En) (ds : List D) (ρ : En) : Option En := match ds with
 | [] => none
 | d :: ds => (g d ρ).bind (gs ds)
def sT (n : Nat) (gs : List D → En → Option En) (d : D) (ρ : En) : Option En := match d with
 | .tup ds => if ds.length = n then gs ds ρ else none
 | _ => none
section
variable {X : Cx} {vs : List Nat} {pos : Pos} {e : Expr} {es : List Expr} {g : D → En → Option En} {gs : List D → En → Option En}
theorem EG.nm (i : Nat) {x : Str} (hN : X.N.Nodup) (hv : i ∈ vs := by first | exact List.mem_cons_self | decide) (hi : X.N[i]? = some x := by rfl) (hx : Loc X.env.scope x := by first | exact .inl rfl | exact .inr rfl)
  (hf : X.fn x = true ∨ X.env.scope.names.lookup x = some .local := by first | exact .inl rfl | exact .inr rfl) : EG X vs (.Name x pos) (sN i) := ⟨fun B hio => PG.mono (pg_name hN hi hx hf) fun v σ H Q ⟨G, ρ, d, ρ', r, h, e, k⟩ => by
 cases e
 exact k _ ((r.val h).set fun q hq z => hio q hq (z ▸ hv)) (wipe_set hv)⟩
theorem EGs.nil : EGs X vs [] sNil := ⟨fun B hio => PGs.mono pgs_nil fun v σ H Q ⟨G, ρ, ds, ρ', r, h, e, k⟩ => by
 cases ds with
 | nil => cases e; exact ⟨h, k _ r rfl⟩
 | cons _ _ => cases e⟩
theorem EGs.cons (h1 : EG X vs e g) (h2 : EGs X vs es gs) (hs : (assignEach (e :: es) X.env).map (·.2) = assign e X.env :: (assignEach es X.env).map (·.2) := by rfl) : EGs X vs (e :: es) (sCons g gs) := ⟨fun B hio => PGs.mono (pgs_cons (h1.run B hio) (h2.run B hio) hs) fun v σ H Q ⟨G, ρ, ds, ρ', r, h, e, k⟩ => by
 cases ds with
 | nil => cases e
 | cons d ds =>
  obtain ⟨v, t, ev, h, ht⟩ := h
  change (g d ρ).bind (gs ds) = some ρ' at e
  cases e1 : g d ρ with
  | none => rw [e1] at e; cases e
  | some ρ1 =>
   rw [e1] at e
   exact ⟨v, t, ev, G, ρ, d, ρ1, r, h, e1, fun σ' r' w' => ⟨G, ρ1, ds, ρ', r', ht, e, fun σ2 r2 w2 => k σ2 r2 (w2.trans w')⟩⟩⟩
theorem EG.tup {k n : Nat} (hc : X.calm = true) (h : EGs X vs es gs) (hn : (assignEach es X.env).length = n := by rfl) (hst : (assignEach es X.env).findIdx? (·.1) = none := by rfl) : EG X vs (.Tuple es k pos) (sT n gs) := ⟨fun B hio => PG.mono (pg_tup hc (h.run B hio) hn hst) fun v σ H Q ⟨G, ρ, d, ρ', r, h, e, k⟩ => by
 unfold sT at e
 split at e
 ·split at e
  ·rename_i hl
   obtain ⟨p, ws, rfl, l, e1, q⟩ := h.tup
   exact ⟨p, ws, rfl, SqT.of (r.gh _ _ e1), by rw [q.len]; exact hl, G, ρ, _, ρ', r, q, e, k⟩
  ·cases e
 ·cases e⟩
end
abbrev W0 : WW := ⟨False, fun _ _ _ _ => False⟩
structure ETs (X : Cx) (W : WW) (es : List Expr) (f : En → Res Bool) : Prop where
 run : ∀ B, PTs X es (lift X W relB B f)
theorem PTs.mono {X : Cx} {es : List Expr} {t t' : TT} (h : PTs X es t) (i : ∀ σ H Q, t' σ H Q → t σ H Q) : PTs X es t' := by
 obtain ⟨h⟩ := h
 constructor
 intros
 apply h <;> first | assumption | (apply i; assumption)
def yes (_ : En) : Res Bool := .ok true
theorem ETs.nil {X : Cx} {W : WW} : ETs X W [] yes := ⟨fun B => PTs.mono pts_nil fun σ H Q ⟨G, ρ, r, h⟩ => Wr.ok h (Stp.refl r.gh) rfl⟩
theorem ETs.one {X : Cx} {W : WW} {c : Expr} {f : En → Res Bool} (h : ET X W c f) : ETs X W [c] f := ⟨fun B => pts_one (h.run B)⟩
def lcL (g : D → En → Option En) (tt : En → Res Bool) (fe : En → Res OT) (ρ : En) : List D → Option (List OT)
 | [] => some []
 | x :: xs => (g x ρ).bind fun ρ1 => match tt ρ1 with
  | .ok true => match fe ρ1 with
   | .ok t => (lcL g tt fe ρ xs).map (t :: ·)
   | _ => none
  | .ok false => lcL g tt fe ρ xs
  | _ => none
def lcD (vs : List Nat) (fi : En → Res (List D)) (g : D → En → Option En) (tt : En → Res Bool) (fe : En → Res OT) (ρ : En) : Res OT := (fi ρ).bind fun xs => ofO ((lcL g tt fe (wipeE ρ vs) xs).map .lst)
theorem lcL_len {g : D → En → Option En} {tt : En → Res Bool} {fe : En → Res OT} {ρ : En} : ∀ {xs : List D} {ts : List OT}, lcL g tt fe ρ xs = some ts → ts.length ≤ xs.length
 | [], ts, h => by cases h; exact Nat.le_refl _
 | x :: xs, ts, h => by
  unfold lcL at h
  cases e1 : g x ρ with
  | none => rw [e1] at h; cases h
  | some ρ1 =>
   rw [e1, Option.bind_some] at h
   split at h
   ·split at h
    ·obtain ⟨us, hu, rfl⟩ := Option.map_eq_some_iff.mp h
     have := lcL_len hu
     rw [List.length_cons, List.length_cons]; omega
    ·cases h
   ·have := lcL_len h
    rw [List.length_cons]; omega
   ·cases h
section
variable {X : Cx} {W : WW} {elt tg iter : Expr} {ifs : List Expr} {scope : Scope} {own : List (Str × Nat)} {pos : Pos} {fi : En → Res (List D)} {g : D → En → Option En} {tt : En → Res Bool} {fe : En → Res OT}
theorem lc_go {vs : List Nat} {B : Bs} {σ : L2.St} {G1 H1 : Hp} {ρ : En} {Q : VK} {ds : List D} {J : It} (r1 : Rep X.K X.mg B G1 H1 σ ρ) (hlen : ds.length ≤ sizeLine) (walks : Walks X.K X.mg J G1 ds) (w1 : Wr X.K X.mg (relO X.K X.mg) W σ G1 H1 (ofO ((lcL g tt fe (wipeE ρ vs) ds).map .lst)) fun _ v _ H' => Q v H') :
  tLc (fun _ _ R => R J H1) (fun v σ H Q => ∃ G ρ d ρ', Rep X.K X.mg B0 G H σ ρ ∧ R X.K X.mg G d v ∧ g d ρ = some ρ' ∧ ∀ σ', Rep X.K X.mg B0 G H σ' ρ' → wipe σ' vs = wipe σ vs → Q σ' H)
   (lift X W0 relB B0 tt) (lift X W0 (relO X.K X.mg) B0 fe) vs σ H1 Q := by
 show ∀ D, H1 D = none → _
 cases el : lcL g tt fe (wipeE ρ vs) ds with
 | none => rw [el] at w1; exact w1.elim
 | some all =>
  rw [el] at w1
  intro L nL
  refine ⟨fun i m Hc => m = ds.length - i ∧ i ≤ ds.length ∧ ∃ G ts rest ws fps, lcL g tt fe (wipeE ρ vs) (ds.drop i) = some rest ∧ ts ++ rest = all ∧ ts.length ≤ i ∧ Stp G1 H1 G Hc ∧ Hc L = some (.lst ws) ∧ ROs X.K X.mg G Hc ts ws fps ∧ (L :: fps).Nodup ∧ ∀ p ∈ L :: fps, H1 p = none ∧ NG G Hc p,
   ⟨ds.length, by omega, Nat.zero_le _, G1, [], all, [], [], el, rfl, Nat.le_refl _, Stp.own r1.gh nL, upd_same, ⟨rfl, rfl⟩, by simp, fun p hp => by rw [List.mem_singleton.mp hp]; exact ⟨nL, .inl (r1.gh.free nL)⟩⟩, ?_⟩
  rintro i m Hc ⟨rfl, hi, G2, ts, rest, ws, fps, e1, e2, e3, st, hL, ro, nd, fr⟩
  by_cases hlt : i < ds.length
  ·obtain ⟨go, yl⟩ := (walks i G2 Hc st.gg st.gh).2 ds[i] (List.getElem?_eq_getElem hlt)
   refine .inr ⟨go, fun Hn => i + 1 ≤ ds.length ∧ ∃ G ts rest ws fps, lcL g tt fe (wipeE ρ vs) (ds.drop (i + 1)) = some rest ∧ ts ++ rest = all ∧ ts.length ≤ i + 1 ∧ Stp G1 H1 G Hn ∧ Hn L = some (.lst ws) ∧ ROs X.K X.mg G Hn ts ws fps ∧ (L :: fps).Nodup ∧ ∀ p ∈ L :: fps, H1 p = none ∧ NG G Hn p,
    fun H' n => ⟨ds.length - (i + 1), by omega, rfl, n⟩, fun x H' y => ?_⟩
   obtain ⟨G3, s3, rx⟩ := yl x H' y
   have st3 := st.trans s3
   rw [List.drop_eq_getElem_cons hlt] at e1
   unfold lcL at e1
   cases eg : g ds[i] (wipeE ρ vs) with
   | none => rw [eg] at e1; cases e1
   | some ρ1 =>
    rw [eg, Option.bind_some] at e1
    refine ⟨G3, wipeE ρ vs, ds[i], ρ1, (r1.step st3).wipe vs, rx, eg, fun σ' r' w' => ⟨?_, ?_⟩⟩
    ·rw [w', wipe_wipe]
    ·have again : ∀ {G4 H4 : Hp} {ts' : List OT} {rest' : List OT} {ws' : List V} {fps' : List Addr}, lcL g tt fe (wipeE ρ vs) (ds.drop (i + 1)) = some rest' → ts' ++ rest' = all → ts'.length ≤ i + 1 → Stp G1 H1 G4 H4 → H4 L = some (.lst ws') → ROs X.K X.mg G4 H4 ts' ws' fps' → (L :: fps').Nodup → (∀ p ∈ L :: fps', H1 p = none ∧ NG G4 H4 p) →
       (i + 1 ≤ ds.length ∧ ∃ G ts rest ws fps, lcL g tt fe (wipeE ρ vs) (ds.drop (i + 1)) = some rest ∧ ts ++ rest = all ∧ ts.length ≤ i + 1 ∧ Stp G1 H1 G H4 ∧ H4 L = some (.lst ws) ∧ ROs X.K X.mg G H4 ts ws fps ∧ (L :: fps).Nodup ∧ ∀ p ∈ L :: fps, H1 p = none ∧ NG G H4 p) :=
      fun a1 a2 a3 a4 a5 a6 a7 a8 => ⟨hlt, _, _, _, _, _, a1, a2, a3, a4, a5, a6, a7, a8⟩
     refine ⟨G3, ρ1, r', ?_⟩
     cases et : tt ρ1 with
     | ex c => rw [et] at e1; cases e1
     | bad => rw [et] at e1; cases e1
     | ok b =>
      rw [et] at e1
      intro b' G4 H4 s4 eb
      cases eb
      have st4 := st3.trans s4
      have s24 := s3.trans s4
      have liveL : Hc L ≠ none := by rw [hL]; exact fun z => nomatch z
      cases b with
      | false =>
       rw [if_neg Bool.false_ne_true]
       refine again e1 e2 (by omega) st4 (s24.hh _ _ hL) (ro.frame s24.gg fun p hp => same_at s24.hh (ro.live p hp)) nd fun p hp => ⟨(fr p hp).1, ?_⟩
       rcases List.mem_cons.mp hp with rfl | hp'
       ·exact (s24.old _ liveL).ng (fr _ hp).2 (same_at s24.hh liveL)
       ·exact (s24.old p (ro.live p hp')).ng (fr p hp).2 (same_at s24.hh (ro.live p hp'))
      | true =>
       rw [if_pos rfl]
       refine ⟨G4, ρ1, r'.step s4, ?_⟩
       dsimp only at e1
       cases ee : fe ρ1 with
       | ex c => rw [ee] at e1; cases e1
       | bad => rw [ee] at e1; cases e1
       | ok t =>
        rw [ee] at e1
        dsimp only at e1
        obtain ⟨rest', er, rfl⟩ := Option.map_eq_some_iff.mp e1
        intro v G5 H5 s5 ⟨fp, ro5, nd5, fr5⟩
        have s25 := s24.trans s5
        have st5 := st.trans s25
        have hl5 : ts.length < sizeLine := by
         have h1 : all.length ≤ ds.length := lcL_len el
         rw [← e2, List.length_append, List.length_cons] at h1
         omega
        have gL : G5 L = none := ((s25.old _ liveL).ng (fr L List.mem_cons_self).2 (same_at s25.hh liveL)).no (s25.hh _ _ hL)
        have nfp : ∀ p ∈ fp, p ∉ L :: fps := fun p hp hq => by
         have h4 : H4 p ≠ none := by
          rcases List.mem_cons.mp hq with rfl | hq'
          ·exact live_of s24.hh liveL
          ·exact live_of s24.hh (ro.live p hq')
         exact h4 (fr5 p hp).1
        refine ⟨ws, s25.hh _ _ hL, by rw [ro.len]; exact hl5, ?_⟩
        refine again (ts' := ts ++ [t]) (fps' := fps ++ fp) er (by rw [List.append_assoc]; exact e2) (by rw [List.length_append]; show _ + 1 ≤ _; omega) ⟨fun p o hp => ?_, st5.gg, fun p o hp => ?_, st5.old⟩ upd_same ?_ ?_ ?_
        ·rw [upd_ne (fun z => by rw [z, nL] at hp; cases hp)]; exact st5.hh p o hp
        ·rw [upd_ne (fun z => by rw [z, gL] at hp; cases hp)]; exact st5.gh p o hp
        ·refine ROs.append (ro.frame s25.gg fun p hp => ?_) (ROs.one (ro5.frame (Same.refl _) fun p hp => ?_))
         ·rw [upd_ne (fun z => (List.nodup_cons.mp nd).1 (by rw [← z]; exact hp))]; exact same_at s25.hh (ro.live p hp)
         ·rw [upd_ne (fun z => nfp p hp (by rw [z]; exact List.mem_cons_self))]
        ·rw [← List.cons_append, List.nodup_append]
         exact ⟨nd, nd5, fun p hp q hq z => nfp q hq (z ▸ hp)⟩
        ·intro p hp
         rw [← List.cons_append] at hp
         rcases List.mem_append.mp hp with hp | hp
         ·refine ⟨(fr p hp).1, ?_⟩
          rcases List.mem_cons.mp hp with rfl | hp'
          ·exact .inl gL
          ·exact ((s25.old p (ro.live p hp')).ng (fr p hp).2 (same_at s25.hh (ro.live p hp'))).upd fun vs z => by rw [s25.hh _ _ hL] at z; cases z
         ·exact ⟨st4.hh.free (fr5 p hp).1, (fr5 p hp).2.upd fun vs z => by rw [s25.hh _ _ hL] at z; cases z⟩
  ·have ei : i = ds.length := by omega
   refine .inl ⟨(walks i G2 Hc st.gg st.gh).1 (by omega), ?_⟩
   rw [List.drop_of_length_le (by omega)] at e1
   cases e1
   rw [List.append_nil] at e2
   subst e2
   exact Wr.ok (rel := relO X.K X.mg) (k := fun _ v _ H' => Q v H') w1 st ⟨L :: fps, ⟨L, ws, fps, rfl, rfl, by omega, hL, ro⟩, nd, fr⟩
theorem lc_next {vs : List Nat} {B : Bs} {σ : L2.St} {H : Hp} {Q : VK} (h : lift X W (relO X.K X.mg) B (lcD vs fi g tt fe) σ H Q) :
  tLc (lift X W (relI X.K X.mg) B fi) (fun v σ H Q => ∃ G ρ d ρ', Rep X.K X.mg B0 G H σ ρ ∧ R X.K X.mg G d v ∧ g d ρ = some ρ' ∧ ∀ σ', Rep X.K X.mg B0 G H σ' ρ' → wipe σ' vs = wipe σ vs → Q σ' H)
   (lift X W0 relB B0 tt) (lift X W0 (relO X.K X.mg) B0 fe) vs σ H Q := by
 obtain ⟨G, ρ, r, h⟩ := h
 exact lift.next (rel := relI X.K X.mg) (g := fun xs ρ => ofO ((lcL g tt fe (wipeE ρ vs) xs).map .lst)) later_O r h fun ds J G1 H1 r1 s1 ⟨hlen, walks⟩ w1 => lc_go r1 hlen walks w1
theorem EO.lc (hc : X.calm = true) (hN : X.N.Nodup) (hi : EI X W tg iter fi) (ok : BlkOk X.N X.env.scope scope own)
  (hg : ∀ (s : Shared) (H : Hp) (C : Addr) (cl : List (Str × Addr)) (fp : List Addr), EG (X.blk s H scope (compEnvC scope cl C X.env) fp) (own.map (·.2)) tg g)
  (ht : ∀ (s : Shared) (H : Hp) (C : Addr) (cl : List (Str × Addr)) (fp : List Addr), ETs (X.blk s H scope (compEnvC scope cl C X.env) fp) W0 ifs tt)
  (he : ∀ (s : Shared) (H : Hp) (C : Addr) (cl : List (Str × Addr)) (fp : List Addr), EO (X.blk s H scope (compEnvC scope cl C X.env) fp) W0 elt fe) (hs : ∀ x, foldedSetIterable iter X.env x = pure x := by intro _; rfl) :
  EO X W (.ListComp elt [⟨tg, iter, ifs, 0⟩] scope pos) (lcD (own.map (·.2)) fi g tt fe) := ⟨fun B =>
 PE.mono (pe_lc hc hN (hi.run B) ok (fun s H C cl fp => (hg s H C cl fp).run B0 (fun q h => by cases h)) (fun s H C cl fp => (ht s H C cl fp).run B0) (fun s H C cl fp => (he s H C cl fp).run B0) hs) fun σ H Q h => lc_next h⟩
end
end FL
namespace FL
open PySem PySem.Spec PyProof.Rows L2
inductive Flw where
 | nx (ρ : En) | rt (t : OT) (ρ : En) | bk (ρ : En) | ct (ρ : En) | ex (c : Exn) (ρ : En) | bad
def Out (X : Cx) (W : WW) (B : Bs) (D : Ends) : Flw → Prop
 | .nx ρ => ∀ σ G H, Rep X.K X.mg B G H σ ρ → D.nx σ H
 | .rt t ρ => ∀ v σ G H, RepV X.K X.mg B G H σ ρ t v → D.rt v H
 | .bk ρ => ∀ σ G H, Rep X.K X.mg B G H σ ρ → D.bk σ H
 | .ct ρ => ∀ σ G H, Rep X.K X.mg B G H σ ρ → D.ct σ H
 | .ex c ρ => W.on ∧ ∀ σ G H cls dd, Rep X.K X.mg B G H σ ρ → RX X.K X.mg G H c cls dd → W.w cls dd σ H
 | .bad => False
def lS (X : Cx) (W : WW) (B : Bs) (F : En → Flw) : TS := fun D σ H => ∃ G ρ, Rep X.K X.mg B G H σ ρ ∧ Out X W B D (F ρ)
structure S1 (X : Cx) (W : WW) (io : List Nat) (st : Stmt) (F : En → Flw) : Prop where
 run : ∀ B, B.io.map (·.1) = io → PS X st (lS X W B F)
structure SS (X : Cx) (W : WW) (io : List Nat) (sts : List Stmt) (F : En → Flw) : Prop where
 run : ∀ B, B.io.map (·.1) = io → PSs X sts (lS X W B F)
def bindF {α : Type} (r : Res α) (ρ : En) (k : α → Flw) : Flw := match r with
 | .ok a => k a
 | .ex c => .ex c ρ
 | .bad => .bad
@[simp] theorem bindF_ok {α : Type} (a : α) (ρ : En) (k : α → Flw) : bindF (.ok a) ρ k = k a := rfl
@[simp] theorem bindF_ex {α : Type} (c : Exn) (ρ : En) (k : α → Flw) : bindF (.ex c) ρ k = .ex c ρ := rfl
@[simp] theorem bindF_bad {α : Type} (ρ : En) (k : α → Flw) : bindF .bad ρ k = .bad := rfl
def seqF (f g : En → Flw) (ρ : En) : Flw := match f ρ with
 | .nx ρ' => g ρ'
 | r => r
theorem io_ne {B : Bs} {io : List Nat} {i : Nat} (e : B.io.map (·.1) = io) (h : i ∉ io) : ∀ q ∈ B.io, q.1 ≠ i := fun q hq z => h (by rw [← e, ← z]; exact List.mem_map_of_mem hq)
section
variable {X : Cx} {W : WW} {io : List Nat} {B : Bs} {N : Ends} {G H : Hp} {σ : L2.St} {ρ : En} {st : Stmt} {sts : List Stmt} {F F' : En → Flw} {f : En → Res D} {fo : En → Res OT} {e : Expr} {pos : Pos}
theorem Out.bind {α β : Type} {rel : Hp → Hp → Hp → α → β → Prop} {r : Res α} {k : α → Flw} {Q : β → Hp → Prop} (rep : Rep X.K X.mg B G H σ ρ) (h : Out X W B N (bindF r ρ k))
  (hk : ∀ a b G' H', Rep X.K X.mg B G' H' σ ρ → Stp G H G' H' → rel H G' H' a b → Out X W B N (k a) → Q b H') : lift X W rel B (fun _ => r) σ H Q := ⟨G, ρ, rep, by
 cases r with
 | ok a => exact fun b G' H' s q => hk a b G' H' (rep.step s) s q h
 | ex c => exact ⟨h.1, fun G' H' cls dd s q => h.2 σ G' H' cls dd (rep.step s) q⟩
 | bad => exact h⟩
theorem lift.of {α β : Type} {rel : Hp → Hp → Hp → α → β → Prop} {g : En → Res α} {k : α → Flw} {Q : β → Hp → Prop} (rep : Rep X.K X.mg B G H σ ρ) (h : Out X W B N (bindF (g ρ) ρ k))
  (hk : ∀ a b G' H', Rep X.K X.mg B G' H' σ ρ → Stp G H G' H' → rel H G' H' a b → Out X W B N (k a) → Q b H') : lift X W rel B g σ H Q := ⟨G, ρ, rep, by
 cases e : g ρ with
 | ok a => rw [e] at h; exact fun b G' H' s q => hk a b G' H' (rep.step s) s q h
 | ex c => rw [e] at h; exact ⟨h.1, fun G' H' cls dd s q => h.2 σ G' H' cls dd (rep.step s) q⟩
 | bad => rw [e] at h; exact h⟩
theorem SS.nil : SS X W io [] .nx := ⟨fun B _ => PSs.mono pss_nil fun N σ H ⟨G, ρ, r, h⟩ => h σ G H r⟩
theorem SS.cons (h1 : S1 X W io st F) (h2 : SS X W io sts F') : SS X W io (st :: sts) (seqF F F') := ⟨fun B hB => PSs.mono (pss_cons (h1.run B hB) (h2.run B hB)) fun N σ H ⟨G, ρ, r, h⟩ => ⟨G, ρ, r, by
 unfold seqF at h
 cases e : F ρ with
 | nx ρ' => rw [e] at h; exact fun σ G H r => ⟨G, ρ', r, h⟩
 | rt t ρ' => rw [e] at h; exact h
 | bk ρ' => rw [e] at h; exact h
 | ct ρ' => rw [e] at h; exact h
 | ex c ρ' => rw [e] at h; exact h
 | bad => rw [e] at h; exact h⟩⟩
theorem SS.one (h1 : S1 X W io st F) : SS X W io [st] F := ⟨fun B hB => pss_one (h1.run B hB)⟩
def fzF (i : Nat) (F : En → Flw) (ρ : En) : Flw := F (frzAt i ρ)
def fgF (i : Nat) (F : En → Flw) (ρ : En) : Flw := F (ρ.set i none)
theorem SS.fz (i : Nat) (h : SS X W io sts F) : SS X W io sts (fzF i F) := ⟨fun B hB => PSs.mono (h.run B hB) fun N σ H ⟨G, ρ, r, h⟩ => by
 obtain ⟨G', r'⟩ := r.fzAt i
 exact ⟨G', _, r', h⟩⟩
theorem SS.fg (i : Nat) (h : SS X W io sts F) : SS X W io sts (fgF i F) := ⟨fun B hB => PSs.mono (h.run B hB) fun N σ H ⟨G, ρ, r, h⟩ => ⟨G, _, r.forget i, h⟩⟩
def asg (i : Nat) (f : En → Res D) (ρ : En) : Flw := bindF (f ρ) ρ fun d => .nx (ρ.set i (some (.d d)))
def asgO (i : Nat) (f : En → Res OT) (ρ : En) : Flw := bindF (f ρ) ρ fun t => .nx (ρ.set i (some t))
theorem S1.asg (i : Nat) {x : Str} {pos' : Pos} (h : EF X W e f) (hN : X.N.Nodup) (hio : i ∉ io := by decide) (hi : X.N[i]? = some x := by rfl) (hx : Loc X.env.scope x := by first | exact .inl rfl | exact .inr rfl) (hs : swapsWith e (some (.Name x pos')) pos.line X.env = pure false := by rfl)
  (hf : X.fn x = true ∨ X.env.scope.names.lookup x = some .local := by first | exact .inl rfl | exact .inr rfl) : S1 X W io (.Assign [.Name x pos'] e pos) (asg i f) := ⟨fun B hB => PS.mono (ps_set hN hi hx (h.run B) hs hf) fun N σ H ⟨G, ρ, r, h⟩ =>
 lift.of r h fun a b G' H' r' s q o => o _ _ _ ((r'.val q).set (io_ne hB hio))⟩
theorem S1.asgO (i : Nat) {x : Str} {pos' : Pos} (h : EO X W e fo) (hN : X.N.Nodup) (hio : i ∉ io := by decide) (hi : X.N[i]? = some x := by rfl) (hx : Loc X.env.scope x := by first | exact .inl rfl | exact .inr rfl) (hs : swapsWith e (some (.Name x pos')) pos.line X.env = pure false := by rfl)
  (hf : X.fn x = true ∨ X.env.scope.names.lookup x = some .local := by first | exact .inl rfl | exact .inr rfl) : S1 X W io (.Assign [.Name x pos'] e pos) (asgO i fo) := ⟨fun B hB => PS.mono (ps_set hN hi hx (h.run B) hs hf) fun N σ H ⟨G, ρ, r, h⟩ =>
 lift.of r h fun a b G' H' r' s ⟨fp, q1, q2, q3⟩ o => o _ _ _ ((r.fresh s q1 q2 q3).set (io_ne hB hio))⟩
section
variable {elt tg iter : Expr} {ifs : List Expr} {scope : Scope} {own : List (Str × Nat)} {fi : En → Res (List D)} {g : D → En → Option En} {tt : En → Res Bool} {fe : En → Res OT}
theorem S1.lc (i : Nat) {y : Str} {py spos : Pos} (hc : X.calm = true) (hN : X.N.Nodup) (hi : EI X W tg iter fi) (ok : BlkOk X.N X.env.scope scope own)
  (hg : ∀ (s : Shared) (H : Hp) (C : Addr) (cl : List (Str × Addr)) (fp : List Addr), EG (X.blk s H scope (compEnvC scope cl C X.env) fp) (own.map (·.2)) tg g)
  (ht : ∀ (s : Shared) (H : Hp) (C : Addr) (cl : List (Str × Addr)) (fp : List Addr), ETs (X.blk s H scope (compEnvC scope cl C X.env) fp) W0 ifs tt)
  (he : ∀ (s : Shared) (H : Hp) (C : Addr) (cl : List (Str × Addr)) (fp : List Addr), EO (X.blk s H scope (compEnvC scope cl C X.env) fp) W0 elt fe)
  (hsw : swapsWith (.ListComp elt [⟨tg, iter, ifs, 0⟩] scope pos) (some (.Name y py)) spos.line X.env = pure true) (hio : i ∉ io := by decide) (hy : X.N[i]? = some y := by rfl) (hyl : X.env.scope.names.lookup y = some .local := by rfl) (hs : ∀ x, foldedSetIterable iter X.env x = pure x := by intro _; rfl) :
  S1 X W io (.Assign [.Name y py] (.ListComp elt [⟨tg, iter, ifs, 0⟩] scope pos) spos) (FL.asgO i (lcD (own.map (·.2)) fi g tt fe)) := ⟨fun B hB =>
 PS.mono (ps_setLc hc hN hy hyl hsw (hi.run B) ok (fun s H C cl fp => (hg s H C cl fp).run B0 (fun q h => by cases h)) (fun s H C cl fp => (ht s H C cl fp).run B0) (fun s H C cl fp => (he s H C cl fp).run B0) hs) fun N σ H ⟨G, ρ, r, h⟩ =>
  lc_next (lift.of r h fun a b G' H' r' s ⟨fp, q1, q2, q3⟩ o => o _ _ _ ((r.fresh s q1 q2 q3).set (io_ne hB hio)))⟩
end
def asgG (g : D → En → Option En) (f : En → Res D) (ρ : En) : Flw := bindF (f ρ) ρ fun d => match g d ρ with
 | some ρ' => .nx ρ'
 | none => .bad
theorem S1.tgt {vs : List Nat} {tg : Expr} {g : D → En → Option En} (h : EF X W e f) (hg : EG X vs tg g) (hio : ∀ i ∈ io, i ∉ vs := by decide) (hs : swapsWithSole [tg] e pos.line X.env = pure false := by rfl) (hw : swappedStores [tg] e X.env = pure none := by rfl)
  (h1 : (assignEach [tg] X.env).map (·.2) = [assign tg X.env] := by rfl) : S1 X W io (.Assign [tg] e pos) (asgG g f) := ⟨fun B hB => PS.mono (ps_asg (h.run B) (hg.run B (fun q hq => hio q.1 (by rw [← hB]; exact List.mem_map_of_mem hq))) hs hw h1) fun N σ H ⟨G, ρ, r, h⟩ =>
 lift.of r h fun a b G' H' r' s q o => by
  cases eg : g a ρ with
  | none => rw [eg] at o; exact o.elim
  | some ρ' => rw [eg] at o; exact ⟨G', ρ, a, ρ', r', q, eg, fun σ' r2 _ => o _ _ _ r2⟩⟩
def drp (f : En → Res D) (ρ : En) : Flw := bindF (f ρ) ρ fun _ => .nx ρ
theorem S1.drop (h : EF X W e f) (hs : swapsWith e none pos.line X.env = pure false := by rfl) : S1 X W io (.Expr e pos) (drp f) := ⟨fun B hB => PS.mono (ps_expr (h.run B) hs) fun N σ H ⟨G, ρ, r, h⟩ => lift.of r h fun a b G' H' r' s q o => o _ _ _ r'⟩
def ret (f : En → Res D) (ρ : En) : Flw := bindF (f ρ) ρ fun d => .rt (.d d) ρ
def retO (f : En → Res OT) (ρ : En) : Flw := bindF (f ρ) ρ fun t => .rt t ρ
theorem S1.ret (h : EF X W e f) : S1 X W io (.Return (some e) pos) (ret f) := ⟨fun B hB => PS.mono (ps_ret (h.run B)) fun N σ H ⟨G, ρ, r, h⟩ => lift.of r h fun a b G' H' r' s q o => o _ _ _ _ (r'.val q)⟩
theorem S1.retO (h : EO X W e fo) : S1 X W io (.Return (some e) pos) (retO fo) := ⟨fun B hB => PS.mono (ps_ret (h.run B)) fun N σ H ⟨G, ρ, r, h⟩ => lift.of r h fun a b G' H' r' s ⟨fp, q1, q2, q3⟩ o => o _ _ _ _ (r.fresh s q1 q2 q3)⟩
def retM (i : Nat) (ρ : En) : Flw := match ρ[i]? with
 | some (some t) => .rt t (ρ.set i none)
 | _ => .bad
theorem S1.retM (i : Nat) {x : Str} {pos' : Pos} (hN : X.N[i]? = some x := by rfl) (hv : Vis X.env.scope x := by first | exact Or.inl rfl | exact Or.inr (Or.inl rfl) | exact Or.inr (Or.inr rfl)) (hd : (x == ("__debug__" : Str)) = false := by decide)
  (hcd : (x == ("__classdict__" : Str)) = false := by decide) : S1 X W io (.Return (some (.Name x pos')) pos) (retM i) := ⟨fun B hB => PS.mono (ps_ret (pe_var hN hv hd hcd)) fun N σ H ⟨G, ρ, r, h⟩ => by
 unfold FL.retM at h
 split at h
 ·rename_i t e
  obtain ⟨v, a, rv⟩ := r.move e
  exact ⟨v, a, h v σ G H rv⟩
 ·exact h.elim⟩
def retN (ρ : En) : Flw := .rt (.d .non) ρ
theorem S1.retN : S1 X W io (.Return none pos) retN := ⟨fun B hB => PS.mono ps_retN fun N σ H ⟨G, ρ, r, h⟩ => h _ _ _ _ (r.val (d := .non) rfl)⟩
theorem S1.brk : S1 X W io (.Break pos) .bk := ⟨fun B hB => PS.mono ps_break fun N σ H ⟨G, ρ, r, h⟩ => h _ _ _ r⟩
theorem S1.cont : S1 X W io (.Continue pos) .ct := ⟨fun B hB => PS.mono ps_continue fun N σ H ⟨G, ρ, r, h⟩ => h _ _ _ r⟩
def ifF (t : En → Res Bool) (f g : En → Flw) (ρ : En) : Flw := bindF (t ρ) ρ fun b => if b = true then f ρ else g ρ
theorem S1.ite {c : Expr} {a b : List Stmt} {t : En → Res Bool} (hc : ET X W c t) (ha : SS X W io a F) (hb : SS X W io b F') : S1 X W io (.If c a b pos) (ifF t F F') := ⟨fun B hB => PS.mono (ps_if (hc.run B) (ha.run B hB) (hb.run B hB)) fun N σ H ⟨G, ρ, r, h⟩ =>
 lift.of (rel := relB) r h fun k k' G' H' r' s q o => by
  cases q
  cases k with
  | true => exact ⟨G', ρ, r', o⟩
  | false => exact ⟨G', ρ, r', o⟩⟩
def raF (c : Str) (ρ : En) : Flw := .ex ⟨c, none⟩ ρ
def forL (g : D → En → Option En) (body : En → Flw) : List D → En → Flw
 | [], ρ => .nx ρ
 | x :: xs, ρ => match g x ρ with
  | none => .bad
  | some ρ1 => match body ρ1 with
   | .nx ρ2 => forL g body xs ρ2
   | .ct ρ2 => forL g body xs ρ2
   | .bk ρ2 => .nx ρ2
   | r => r
def forF (fi : En → Res (List D)) (g : D → En → Option En) (body : En → Flw) (ρ : En) : Flw := bindF (fi ρ) ρ fun xs => forL g body xs ρ
theorem Rep.base {K : PySem.W.Frag} {mg : Str → Option Value} {G1 : Hp} (r : Rep K mg ⟨B.O, G1, B.io⟩ G H σ ρ) (g : Same B.G0 G1) (og : ∀ p, B.O p ≠ none → KG G1 B.G0 B.O p) : Rep K mg B G H σ ρ := by
 obtain ⟨F, f⟩ := r.sl
 exact ⟨⟨r.g.gh, r.g.oh, g.trans r.g.g0, fun p h => (r.g.og p h).trans (og p h), r.g.io⟩, r.len, F, ⟨f.rep, f.nd, f.at_, f.dj⟩⟩
theorem RepV.base {K : PySem.W.Frag} {mg : Str → Option Value} {G1 : Hp} {t : OT} {v : V} (r : RepV K mg ⟨B.O, G1, B.io⟩ G H σ ρ t v) (g : Same B.G0 G1) (og : ∀ p, B.O p ≠ none → KG G1 B.G0 B.O p) : RepV K mg B G H σ ρ t v := by
 obtain ⟨F, fv, f, a, b, c, d⟩ := r.sl
 exact ⟨⟨r.g.gh, r.g.oh, g.trans r.g.g0, fun p h => (r.g.og p h).trans (og p h), r.g.io⟩, r.len, F, fv, ⟨f.rep, f.nd, f.at_, f.dj⟩, a, b, c, d⟩
theorem Rep.unbase {K : PySem.W.Frag} {mg : Str → Option Value} {G1 : Hp} (r : Rep K mg B G H σ ρ) (g : Same G1 G) (og : ∀ p, B.O p ≠ none → KG G G1 B.O p) : Rep K mg ⟨B.O, G1, B.io⟩ G H σ ρ := by
 obtain ⟨F, f⟩ := r.sl
 exact ⟨⟨r.g.gh, r.g.oh, g, og, r.g.io⟩, r.len, F, ⟨f.rep, f.nd, f.at_, f.dj⟩⟩
theorem SS.any (h : SS X W io sts F) : PSs X sts (fun N σ H => ∃ B, B.io.map (·.1) = io ∧ lS X W B F N σ H) := ⟨fun pins s σ H N I ⟨B, hB, q⟩ => (h.run B hB).run pins s σ H N I q⟩
theorem S1.for {tg iter : Expr} {body : List Stmt} {vs : List Nat} {fi : En → Res (List D)} {g : D → En → Option En} (hp : PassesOwn (model X.prog X.w) X.A X.env X.xe) (hc : X.calm = true) (hi : EI X W tg iter fi) (hg : EG X vs tg g) (hb : SS X W io body F) (hio : ∀ i ∈ io, i ∉ vs := by decide)
  (hs : ∀ x, foldedSetIterable iter X.env x = pure x := by intro _; rfl) : S1 X W io (.For tg iter body [] pos) (forF fi g F) := ⟨fun B hB => PS.mono (ps_for hp hc (hi.run B) (hg.run B (fun q hq => hio q.1 (by rw [← hB]; exact List.mem_map_of_mem hq))) hb.any hs) fun N σ H ⟨G, ρ, r, h⟩ =>
 lift.of r h fun ds J G1 H1 r1 s1 ⟨_, walks⟩ o => by
  refine ⟨fun i m σ H => m = ds.length - i ∧ i ≤ ds.length ∧ ∃ G ρ, Rep X.K X.mg B G H σ ρ ∧ Same G1 G ∧ Out X W B N (forL g F (ds.drop i) ρ), ⟨ds.length, by omega, Nat.zero_le _, G1, ρ, r1, Same.refl _, o⟩, ?_⟩
  rintro i m σ2 H2 ⟨rfl, hi, G2, ρ2, r2, g12, o2⟩
  have og : ∀ p, B.O p ≠ none → KG G1 B.G0 B.O p := r1.g.og
  by_cases hlt : i < ds.length
  ·obtain ⟨go, yl⟩ := (walks i G2 H2 g12 r2.gh).2 ds[i] (List.getElem?_eq_getElem hlt)
   refine .inr ⟨go, fun σ' H' => i + 1 ≤ ds.length ∧ ∃ G ρ, Rep X.K X.mg B G H' σ' ρ ∧ Same G1 G ∧ Out X W B N (forL g F (ds.drop (i + 1)) ρ), fun σ' H' n => ⟨ds.length - (i + 1), by omega, rfl, n⟩, fun x H' y => ?_⟩
   obtain ⟨G3, s3, rx⟩ := yl x H' y
   rw [List.drop_eq_getElem_cons hlt] at o2
   unfold forL at o2
   cases eg : g ds[i] ρ2 with
   | none => rw [eg] at o2; exact o2.elim
   | some ρ3 =>
    rw [eg] at o2
    dsimp only at o2
    have r3 := r2.step s3
    have g13 := g12.trans s3.gg
    refine ⟨G3, ρ2, ds[i], ρ3, r3, rx, eg, fun σ' r' _ => ⟨⟨B.O, G1, B.io⟩, hB, G3, ρ3, r'.unbase g13 (fun p hp => (r3.g.og p hp).trans (og p hp).symm), ?_⟩⟩
    cases ef : F ρ3 with
    | nx ρ4 =>
     rw [ef] at o2
     exact fun σ G H r => ⟨hlt, G, ρ4, r.base r1.g.g0 og, r.g.g0, o2⟩
    | ct ρ4 =>
     rw [ef] at o2
     exact fun σ G H r => ⟨hlt, G, ρ4, r.base r1.g.g0 og, r.g.g0, o2⟩
    | bk ρ4 =>
     rw [ef] at o2
     exact fun σ G H r => o2 σ G H (r.base r1.g.g0 og)
    | rt t ρ4 =>
     rw [ef] at o2
     exact fun v σ G H r => o2 v σ G H (r.base r1.g.g0 og)
    | ex c ρ4 =>
     rw [ef] at o2
     exact ⟨o2.1, fun σ G H cls dd r => o2.2 σ G H cls dd (r.base r1.g.g0 og)⟩
    | bad => rw [ef] at o2; exact o2.elim
  ·rw [List.drop_of_length_le (by omega)] at o2
   exact .inl ⟨(walks i G2 H2 g12 r2.gh).1 (by omega), o2 _ _ _ r2⟩⟩
def whN (c : En → Res Bool) (body : En → Flw) : Nat → En → Option Flw
 | 0, _ => none
 | n + 1, ρ => match c ρ with
  | .ok true => match body ρ with
   | .nx ρ' => whN c body n ρ'
   | .ct ρ' => whN c body n ρ'
   | .bk ρ' => some (.nx ρ')
   | r => some r
  | .ok false => some (.nx ρ)
  | .ex x => some (.ex x ρ)
  | .bad => some .bad
open Classical in
noncomputable def whF (c : En → Res Bool) (body : En → Flw) (ρ : En) : Flw := if h : ∃ n r, whN c body n ρ = some r then h.choose_spec.choose else .bad
theorem whN_more {c : En → Res Bool} {body : En → Flw} : ∀ {n m : Nat} {ρ : En} {r : Flw}, n ≤ m → whN c body n ρ = some r → whN c body m ρ = some r
 | 0, _, _, _, _, h => by cases h
 | n + 1, 0, _, _, l, _ => by omega
 | n + 1, m + 1, ρ, r, l, h => by
  unfold whN at h ⊢
  split at h
  ·split at h
   ·exact whN_more (by omega) h
   ·exact whN_more (by omega) h
   ·exact h
   ·exact h
  ·exact h
  ·exact h
  ·exact h
theorem whF_of {c : En → Res Bool} {body : En → Flw} {n : Nat} {ρ : En} {r : Flw} (h : whN c body n ρ = some r) : whF c body ρ = r := by
 have hx : ∃ n r, whN c body n ρ = some r := ⟨n, r, h⟩
 unfold whF
 rw [dif_pos hx]
 have e := hx.choose_spec.choose_spec
 have a := whN_more (Nat.le_max_left n hx.choose) h
 have b := whN_more (Nat.le_max_right n hx.choose) e
 rw [a] at b
 exact (Option.some.inj b).symm
theorem S1.while {c : Expr} {body : List Stmt} {t : En → Res Bool} (hp : PassesOwn (model X.prog X.w) X.A X.env X.xe) (hc : ET X W c t) (hb : SS X W io body F) : S1 X W io (.While c body [] pos) (whF t F) := ⟨fun B hB => PS.mono (ps_while hp (hc.run B) hb.any) fun N σ H ⟨G, ρ, r, h⟩ => by
 by_cases hx : ∃ n r, whN t F n ρ = some r
 ·obtain ⟨n, q, hq⟩ := hx
  rw [whF_of hq] at h
  refine ⟨fun m σ H => ∃ G ρ q, Rep X.K X.mg B G H σ ρ ∧ whN t F m ρ = some q ∧ Out X W B N q, ⟨n, G, ρ, q, r, hq, h⟩, ?_⟩
  rintro m σ2 H2 ⟨G2, ρ2, q2, r2, e2, o2⟩
  cases m with
  | zero => cases e2
  | succ m =>
   unfold whN at e2
   refine ⟨G2, ρ2, r2, ?_⟩
   cases et : t ρ2 with
   | bad => rw [et] at e2; cases e2; exact o2
   | ex x => rw [et] at e2; cases e2; exact ⟨o2.1, fun G' H' cls dd s q => o2.2 σ2 G' H' cls dd (r2.step s) q⟩
   | ok b =>
    rw [et] at e2
    intro b' G3 H3 s3 eb
    cases eb
    have r3 := r2.step s3
    cases b with
    | false =>
     dsimp only at e2
     cases e2
     rw [if_neg Bool.false_ne_true]
     exact o2 _ _ _ r3
    | true =>
     dsimp only at e2
     rw [if_pos rfl]
     refine ⟨fun σ' H' => ∃ G ρ q, Rep X.K X.mg B G H' σ' ρ ∧ whN t F m ρ = some q ∧ Out X W B N q, fun σ' H' n => ⟨m, Nat.lt_succ_self m, n⟩, B, hB, G3, ρ2, r3, ?_⟩
     cases ef : F ρ2 with
     | nx ρ4 => rw [ef] at e2; exact fun σ G H r => ⟨G, ρ4, q2, r, e2, o2⟩
     | ct ρ4 => rw [ef] at e2; exact fun σ G H r => ⟨G, ρ4, q2, r, e2, o2⟩
     | bk ρ4 => rw [ef] at e2; cases e2; exact o2
     | rt t ρ4 => rw [ef] at e2; cases e2; exact o2
     | ex c ρ4 => rw [ef] at e2; cases e2; exact o2
     | bad => rw [ef] at e2; cases e2; exact o2.elim
 ·unfold whF at h
  rw [dif_neg hx] at h
  exact h.elim⟩
end
end FL
namespace FL
open PySem PySem.Spec PyProof.Rows L2
def spP (K : PySem.W.Frag) (mg : Str → Option Value) (on : Prop) (F : List D → Res OT) : Sp := fun vs H Q E => ∃ G ds, Same G H ∧ Rs K mg G ds vs ∧ match F ds with
 | .ok t => ∀ v G' H', Stp G H G' H' → relO K mg H G' H' t v → Q v H'
 | .ex c => on ∧ ∀ G' H' cls dd, Stp G H G' H' → RX K mg G' H' c cls dd → E cls dd H'
 | .bad => False
def args (n : Nat) (ds : List D) : En := ds.map (fun d => some (.d d)) ++ List.replicate (n - ds.length) none
def run (a n : Nat) (F : En → Flw) (ds : List D) : Res OT := if ds.length = a then match F (args n ds) with
 | .nx _ => .ok (.d .non)
 | .rt t _ => .ok t
 | .ex c _ => .ex c
 | _ => .bad else .bad
theorem args_rep {K : PySem.W.Frag} {mg : Str → Option Value} {G H : Hp} {ds : List D} {vs : List V} {N : List Str} (gh : Same G H) (rs : Rs K mg G ds vs) : Rep K mg ⟨H, G, []⟩ G H (L2.start N vs) (args N.length ds) := by
 have hl := rs.len
 refine ⟨⟨gh, Same.refl _, Same.refl _, fun _ _ => .refl, fun q h => by cases h⟩, ?_, fun _ => [], fun i t e => ?_, fun _ => List.nodup_nil, fun i p hp => absurd hp (by simp), fun i j p _ hp => absurd hp (by simp)⟩
 ·unfold L2.start args
  rw [List.length_append, List.length_append, List.length_map, List.length_map, List.length_replicate, List.length_replicate, hl]
 ·unfold args at e
  by_cases hi : i < ds.length
  ·rw [List.getElem?_append_left (by simpa using hi), List.getElem?_map, List.getElem?_eq_getElem hi] at e
   cases e
   obtain ⟨v, h1, h2⟩ := rs.get (List.getElem?_eq_getElem hi)
   refine ⟨v, ?_, RO.dd h2⟩
   unfold L2.start
   rw [List.getElem?_append_left (by rw [List.length_map, hl]; exact hi), List.getElem?_map, h1]
   rfl
  ·rw [List.getElem?_append_right (by simpa using hi), List.getElem?_replicate] at e
   split at e <;> cases e
theorem Gr.stp {K : PySem.W.Frag} {mg : Str → Option Value} {G H G' H' : Hp} {σ : L2.St} (g : Gr ⟨H, G, []⟩ G' H' σ) : Stp G H G' H' := ⟨g.oh, g.g0, g.gh, g.og⟩
theorem out_run {X : Cx} {W : WW} {on : Prop} {a n : Nat} {F : En → Flw} {ds : List D} {G H : Hp} {Q : VK} {E : XK} (hW : on → W.on) (hE : ∀ cls d σ H', E cls d H' → W.w cls d σ H') (hl : ds.length = a)
  (h : match run a n F ds with
   | .ok t => ∀ v G' H', Stp G H G' H' → relO X.K X.mg H G' H' t v → Q v H'
   | .ex c => on ∧ ∀ G' H' cls dd, Stp G H G' H' → RX X.K X.mg G' H' c cls dd → E cls dd H'
   | .bad => False) : Out X W ⟨H, G, []⟩ { nx := fun _ H' => Q .non H', rt := Q } (F (args n ds)) := by
 unfold run at h
 rw [if_pos hl] at h
 cases e : F (args n ds) with
 | nx ρ =>
  rw [e] at h
  exact fun σ G' H' r => h .non G' H' (Gr.stp (K := X.K) (mg := X.mg) r.g) ⟨[], RO.dd rfl, List.nodup_nil, fun p hp => absurd hp (by simp)⟩
 | rt t ρ =>
  rw [e] at h
  intro v σ G' H' r
  obtain ⟨F', fv, f, a1, a2, a3, a4⟩ := r.sl
  exact h v G' H' (Gr.stp (K := X.K) (mg := X.mg) r.g) ⟨fv, a1, a2, fun p hp => ⟨(a3 p hp).2.2, (a3 p hp).2.1⟩⟩
 | ex c ρ =>
  rw [e] at h
  exact ⟨hW h.1, fun σ G' H' cls dd r q => hE _ _ _ _ (h.2 G' H' cls dd (Gr.stp (K := X.K) (mg := X.mg) r.g) q)⟩
 | bk ρ => rw [e] at h; exact h.elim
 | ct ρ => rw [e] at h; exact h.elim
 | bad => rw [e] at h; exact h.elim
theorem spP_len {K : PySem.W.Frag} {mg : Str → Option Value} {on : Prop} {a n : Nat} {F : En → Flw} {vs : List V} {H : Hp} {Q : VK} {E : XK} (h : spP K mg on (run a n F) vs H Q E) : vs.length = a := by
 obtain ⟨G, ds, _, rs, h⟩ := h
 rw [rs.len]
 unfold run at h
 by_cases e : ds.length = a
 ·exact e
 ·rw [if_neg e] at h; exact h.elim
section
variable {P : Program} {w : World} {K : PySem.W.Frag} {mg : Str → Option Value} {base : Heap}
theorem fn0 {x qual : Str} {st : Stmt} {f : Addr} {fd : FuncData} {N ps : List Str} {k : Nat} {F : En → Flw} (Fn : Fun K x qual st f fd) (S : FnScope N ps (defScope st))
  (hb : ∀ (cdv : Value) (A : Around) (outer : List Env) (s : Shared) (H : Hp) (E : XK), Room k (A.deeper (envOfC qual (defScope st) s.heap.objs.size f cdv)) → SS (cxOf CX0 P w K mg base N qual (defScope st) f cdv A outer s H E).nox W0 [] (defBody st) F) :
  FnOk P w K mg base CX0 (k + 1) f fd ps (spP K mg False (run ps.length N.length F)) := by
 refine Fn.ok S (fun vs H Q E h => spP_len h) (fun cdv A outer s H vs Q E hr hsp => ?_)
 have hl := spP_len hsp
 obtain ⟨G, ds, gh, rs, h⟩ := hsp
 have h' : match run ps.length N.length F ds with
   | .ok t => ∀ v G' H', Stp G H G' H' → relO K mg H G' H' t v → Q v H'
   | .ex c => False ∧ ∀ G' H' cls dd, Stp G H G' H' → RX K mg G' H' c cls dd → (fun _ _ _ => False : XK) cls dd H'
   | .bad => False := by
  cases e : run ps.length N.length F ds with
  | ok t => rw [e] at h; exact h
  | ex c => rw [e] at h; exact h.1.elim
  | bad => rw [e] at h; exact h
 exact ⟨_, (hb cdv A outer s H E hr).run ⟨H, G, []⟩ rfl, G, args N.length ds, args_rep gh rs, out_run (X := (cxOf CX0 P w K mg base N qual (defScope st) f cdv A outer s H E).nox) (W := W0) (on := False) (a := ps.length) (E := fun _ _ _ => False) (fun z => z) (fun _ _ _ _ z => z) (by rw [← rs.len]; exact hl) h'⟩
theorem okN {x qual : Str} {st : Stmt} {f : Addr} {fd : FuncData} {N ps : List Str} {k : Nat} {sp : Sp} (F : Fun K x qual st f fd) (S : FnScope N ps (defScope st)) (len : ∀ vs H Q E, sp vs H Q E → vs.length = ps.length)
  (hbody : ∀ (cdv : Value) (A : Around) (outer : List Env) (s : Shared) (H : Hp) (vs : List V) (Q : VK) (E : XK), Room k (A.deeper (envOfC qual (defScope st) s.heap.objs.size f cdv)) → sp vs H Q E →
   ∃ t, PSs (cxOf (L2N.CX P w) P w K mg base N qual (defScope st) f cdv A outer s H E) (defBody st) t ∧ t { nx := fun _ H' => Q .non H', rt := Q } (L2.start N vs) H) : FnOk P w K mg base (L2N.CX P w) (k + 1) f fd ps sp := by
 obtain ⟨oc, od, kV, doc, pm, an, cdv, ct, osl, rfl, lk, hcd⟩ := F.ex
 exact fn_of lk hcd S len fun A outer s H vs Q E hr hsp => hbody cdv A outer s H vs Q E hr hsp
theorem fnX {x qual : Str} {st : Stmt} {f : Addr} {fd : FuncData} {N ps : List Str} {k : Nat} {F : En → Flw} (Fn : Fun K x qual st f fd) (S : FnScope N ps (defScope st))
  (hb : ∀ (cdv : Value) (A : Around) (outer : List Env) (s : Shared) (H : Hp) (E : XK), Room k (A.deeper (envOfC qual (defScope st) s.heap.objs.size f cdv)) → SS (cxOf (L2N.CX P w) P w K mg base N qual (defScope st) f cdv A outer s H E) ⟨True, fun cls d _ H' => E cls d H'⟩ [] (defBody st) F) :
  FnOk P w K mg base (L2N.CX P w) (k + 1) f fd ps (spP K mg True (run ps.length N.length F)) := by
 refine okN Fn S (fun vs H Q E h => spP_len h) (fun cdv A outer s H vs Q E hr hsp => ?_)
 have hl := spP_len hsp
 obtain ⟨G, ds, gh, rs, h⟩ := hsp
 exact ⟨_, (hb cdv A outer s H E hr).run ⟨H, G, []⟩ rfl, G, args N.length ds, args_rep gh rs, out_run (X := cxOf (L2N.CX P w) P w K mg base N qual (defScope st) f cdv A outer s H E) (W := ⟨True, fun cls d _ H' => E cls d H'⟩) (on := True) (a := ps.length) (E := E) (fun z => z) (fun _ _ _ _ z => z) (by rw [← rs.len]; exact hl) h⟩
end
structure Cal (P : Program) (w : World) (K : PySem.W.Frag) (mg : Str → Option Value) (base : Heap) (CX : CXT) (on : Prop) (x : Str) (k : Nat) (F : List D → Res OT) : Prop where
 ex : ∃ f fd ps, FnOk P w K mg base CX k f fd ps (spP K mg on F) ∧ mg x = some (.ref f) ∧ PySem.W.keepIn K (.ref f) = true ∧ Binds K fd ps []
def call (F : List D → Res OT) (fs : En → Res (List D)) (ρ : En) : Res OT := (fs ρ).bind F
section
variable {X : Cx} {W : WW} {e : Expr} {es : List Expr} {fs : En → Res (List D)} {x : Str} {k : Nat} {p pos : Pos} {CX : CXT} {on : Prop} {F : List D → Res OT}
theorem EO.call (c : Cal X.prog X.w X.K X.mg X.base CX on x k F) (hr : Room k X.A) (hx : ∀ σ, PassesAt CX X σ (WE W.w σ)) (hon : W.on → on) (ha : EA X W (e :: es) fs) (hg : Gl X x := by rfl) (hdb : (x == ("__debug__" : Str)) = false := by decide)
  (he : starEach (e :: es) X.env = (false, eval e X.env) :: starEach es X.env := by rfl) (hpl : (backTo pos (starEach es X.env)).any (·.1) = false := by rfl) : EO X W (.Call (.Name x p) (e :: es) [] pos) (call F fs) := ⟨fun B => by
 obtain ⟨f, fd, ps, hf, hm, hk, hb⟩ := c.ex
 refine PE.mono (pe_callS (E := WE W.w) hf hr hg hm hk hb hx (ha.run B) hdb he hpl) fun σ H Q ⟨G, ρ, r, h⟩ => ?_
 refine lift.next (rel := relL X.K X.mg) (g := fun ds _ => F ds) later_O r h fun ds vs G1 H1 r1 s1 q1 w1 => ⟨G1, ds, r1.gh, q1, ?_⟩
 cases e : F ds with
 | ok t => rw [e] at w1; exact w1
 | ex c => rw [e] at w1; exact ⟨hon w1.1, w1.2⟩
 | bad => rw [e] at w1; exact w1⟩
end
theorem px0 {X : Cx} {W : WW} : ∀ σ, PassesAt CX0 X σ (WE W.w σ) := fun _ _ _ _ _ _ _ h => h.elim
def spLaw (K : PySem.W.Frag) : Sp := fun vs H Q _ => ∃ (a : Addr) (ns : List Int), vs = [.ref a] ∧ SqL K H a (ns.map V.int) ∧ ns.length ≤ 63 ∧ ∀ H', Q (.bl true) H'
theorem sp_law {K : PySem.W.Frag} {mg : Str → Option Value} {on : Prop} {F : List D → Res OT} {a : Addr} {ns : List Int} {H : Hp} {Q : VK} {E : XK} (h : F [.scr ns] = .ok (.d (.bl true))) (hs : SqL K H a (ns.map V.int)) (q : ∀ H', Q (.bl true) H') : spP K mg on F [.ref a] H Q E :=
 ⟨H, [.scr ns], Same.refl _, ⟨.ref a, [], rfl, ⟨a, rfl, hs⟩, rfl⟩, by
  rw [h]
  intro v G' H' s ⟨fp, r, _⟩
  unfold RO at r
  have : v = .bl true := r.2
  rw [this]
  exact q H'⟩
theorem law_fn {P : Program} {w : World} {K : PySem.W.Frag} {mg : Str → Option Value} {base : Heap} {CX : CXT} {on : Prop} {k : Nat} {f : Addr} {fd : FuncData} {ps : List Str} {F : List D → Res OT} (h : FnOk P w K mg base CX k f fd ps (spP K mg on F)) (hF : ∀ ns : List Int, ns.length ≤ 63 → F [.scr ns] = .ok (.d (.bl true))) :
  FnOk P w K mg base CX k f fd ps (spLaw K) := h.imp fun vs H Q E ⟨a, ns, e, hs, hl, q⟩ => by
 rw [e]
 exact sp_law (hF ns hl) hs q
end FL
namespace FL
open PySem PySem.Spec PyProof.Rows L2
section
variable {K : PySem.W.Frag} {mg : Str → Option Value} {B : Bs} {G H G' H' : Hp} {σ : L2.St} {ρ : En}
theorem upd_live {a p : Addr} {o : HO} (h : H p ≠ none) : upd H a o p ≠ none := by
 by_cases e : p = a
 ·rw [e, upd_same]; exact fun z => nomatch z
 ·rw [upd_ne e]; exact h
theorem put_core {F : Nat → List Addr} {i : Nat} {t t' : OT} {v : V} {a : Addr} {o : HO} {fp' : List Addr} (g : Gr B G H σ) (hlen : ρ.length = σ.length) (f : Slots K mg B G H σ ρ F) (e : ρ[i]? = some (some t)) (hv : σ[i]? = some (some v)) (ha : a ∈ F i)
  (h : RO K mg G (upd H a o) t' v fp') (nd : fp'.Nodup) (sub : ∀ p ∈ fp', p ∈ F i ∨ (H p ≠ none ∧ NG G H p ∧ B.O p = none ∧ ∀ j, p ∉ F j)) (nt : ∀ vs, H a ≠ some (.tup vs)) : Rep K mg B G (upd H a o) σ (ρ.set i (some t')) := by
 obtain ⟨la, ga, oa⟩ := f.at_ i a ha
 have ga : G a = none := ga.elim id fun ⟨vs, z⟩ => absurd z (nt vs)
 refine ⟨⟨fun p x q => ?_, fun p x q => ?_, g.g0, g.og, g.io⟩, by rw [List.length_set]; exact hlen, fun j => if j = i then fp' else F j, fun j u q => ?_, fun j => ?_, fun j p hp => ?_, fun j k p ne hp hk => ?_⟩
 ·rw [upd_ne (fun z => by rw [z, ga] at q; cases q)]; exact g.gh p x q
 ·rw [upd_ne (fun z => by rw [z, oa] at q; cases q)]; exact g.oh p x q
 ·rcases get_set q with ⟨e1, hl, e2⟩ | ⟨ne, q⟩
  ·subst e1; cases e2
   refine ⟨v, hv, ?_⟩
   rw [if_pos rfl]; exact h
  ·obtain ⟨w, x, y⟩ := f.rep j u q
   refine ⟨w, x, ?_⟩
   rw [if_neg (fun z => ne z.symm)]
   exact y.frame (Same.refl _) fun p hp => upd_ne (fun z => f.dj j i p (fun z => ne z.symm) hp (z ▸ ha))
 ·(try dsimp only); split
  ·exact nd
  ·exact f.nd j
 ·(try dsimp only at hp); split at hp
  ·rcases sub p hp with hp | ⟨x, y, z, _⟩
   ·exact ⟨upd_live (f.at_ i p hp).1, (f.at_ i p hp).2.1.upd nt, (f.at_ i p hp).2.2⟩
   ·exact ⟨upd_live x, y.upd nt, z⟩
  ·exact ⟨upd_live (f.at_ j p hp).1, (f.at_ j p hp).2.1.upd nt, (f.at_ j p hp).2.2⟩
 ·(try dsimp only at hp hk)
  by_cases h1 : j = i
  ·by_cases h2 : k = i
   ·exact ne (h1.trans h2.symm)
   ·rw [if_pos h1] at hp; rw [if_neg h2] at hk
    rcases sub p hp with hp | ⟨_, _, _, n⟩
    ·exact f.dj i k p (fun z => h2 z.symm) hp hk
    ·exact n k hk
  ·rw [if_neg h1] at hp
   by_cases h2 : k = i
   ·rw [if_pos h2] at hk
    rcases sub p hk with hk | ⟨_, _, _, n⟩
    ·exact f.dj j i p h1 hp hk
    ·exact n j hp
   ·rw [if_neg h2] at hk
    exact f.dj j k p ne hp hk
theorem ROs.at : ∀ {ts : List OT} {vs : List V} {fs : List Addr} {j : Nat} {t : OT}, ROs K mg G H ts vs fs → ts[j]? = some t → ∃ v f1 fj f2, vs[j]? = some v ∧ fs = f1 ++ (fj ++ f2) ∧ RO K mg G H t v fj ∧
  ∀ G' H' t' v' fj', Same G G' → (∀ p, p ∈ f1 ∨ p ∈ f2 → H' p = H p) → RO K mg G' H' t' v' fj' → ROs K mg G' H' (ts.set j t') (vs.set j v') (f1 ++ (fj' ++ f2))
 | [], _, _, _, _, _, h => by simp at h
 | t :: ts, _, _, 0, u, ⟨v, r, f1, f2, e, e2, h, q⟩, eq => by
  simp at eq; subst eq e e2
  exact ⟨v, [], f1, f2, rfl, rfl, h, fun G' H' t' v' fj' g fr h' => ⟨v', r, fj', f2, rfl, rfl, h', q.frame g fun p hp => fr p (.inr hp)⟩⟩
 | t :: ts, _, _, j + 1, u, ⟨v, r, f1, f2, e, e2, h, q⟩, eq => by
  simp at eq; subst e e2
  obtain ⟨w, g1, gj, g2, a, b, c, d⟩ := ROs.at q eq
  refine ⟨w, f1 ++ g1, gj, g2, by simpa using a, by rw [b, List.append_assoc], c, fun G' H' t' v' fj' g fr h' => ⟨v, _, f1, g1 ++ (fj' ++ g2), rfl, by rw [List.append_assoc], h.frame g fun p hp => fr p (.inl (List.mem_append_left _ hp)), d G' H' t' v' fj' g (fun p hp => fr p ?_) h'⟩⟩
  rcases hp with hp | hp
  ·exact .inl (List.mem_append_right _ hp)
  ·exact .inr hp
theorem Rep.lst {i : Nat} {ts : List OT} (r : Rep K mg B G H σ ρ) (e : ρ[i]? = some (some (.lst ts))) : ∃ a vs fs, σ[i]? = some (some (.ref a)) ∧ ts.length ≤ sizeLine ∧ H a = some (.lst vs) ∧ ROs K mg G H ts vs fs ∧ (a :: fs).Nodup ∧
  ∀ o t' fp', RO K mg G (upd H a o) t' (.ref a) fp' → fp'.Nodup → (∀ p ∈ fp', p ∈ a :: fs) → Rep K mg B G (upd H a o) σ (ρ.set i (some t')) := by
 obtain ⟨F, f⟩ := r.sl
 obtain ⟨v, hv, hr⟩ := f.rep i _ e
 obtain ⟨a, vs, fs, rfl, e2, l, ha, ro⟩ := id hr
 refine ⟨a, vs, fs, hv, l, ha, ro, by rw [← e2]; exact f.nd i, fun o t' fp' h nd sub => put_core r.g r.len f e hv (by rw [e2]; exact List.mem_cons_self) h nd (fun p hp => .inl (by rw [e2]; exact sub p hp)) (fun vs z => by rw [ha] at z; cases z)⟩
theorem Rep.lst2 {i j : Nat} {ts us : List OT} (r : Rep K mg B G H σ ρ) (e : ρ[i]? = some (some (.lst ts))) (ej : ts[j]? = some (.lst us)) : ∃ a vs b ws gs, σ[i]? = some (some (.ref a)) ∧ H a = some (.lst vs) ∧ vs.length = ts.length ∧ vs[j]? = some (.ref b) ∧ us.length ≤ sizeLine ∧ H b = some (.lst ws) ∧ ROs K mg G H us ws gs ∧ (b :: gs).Nodup ∧
  ∀ o t' fp', RO K mg G (upd H b o) t' (.ref b) fp' → fp'.Nodup → (∀ p ∈ fp', p ∈ b :: gs) → Rep K mg B G (upd H b o) σ (ρ.set i (some (.lst (ts.set j t')))) := by
 obtain ⟨F, f⟩ := r.sl
 obtain ⟨v, hv, hr⟩ := f.rep i _ e
 obtain ⟨a, vs, fs, rfl, e2, l, ha, ro⟩ := id hr
 obtain ⟨w, f1, fj, f2, hw, ef, rj, back⟩ := ro.at ej
 obtain ⟨b, ws, gs, rfl, eb, lb, hb, rb⟩ := id rj
 have nd := f.nd i
 rw [e2, ef, eb] at nd
 rw [List.nodup_cons, List.nodup_append, List.nodup_append] at nd
 obtain ⟨na, n1, ⟨nb, n2, d2⟩, d1⟩ := nd
 have bF : b ∈ F i := by rw [e2, ef, eb]; simp
 have nab : a ≠ b := fun z => na (by rw [z]; simp)
 refine ⟨a, vs, b, ws, gs, hv, ha, ro.len, hw, lb, hb, rb, nb, fun o t' fp' h nd' sub => ?_⟩
 have sv : vs.set j (.ref b) = vs := by
  apply List.ext_getElem?
  intro k
  by_cases hk : j = k
  ·subst hk
   have := (List.getElem?_eq_some_iff.mp hw).1
   rw [List.getElem?_set_self this, hw]
  ·rw [List.getElem?_set_ne hk]
 refine put_core (fp' := a :: (f1 ++ (fp' ++ f2))) r.g r.len f e hv bF ?_ ?_ (fun p hp => .inl ?_) (fun vs z => by rw [hb] at z; cases z)
 ·refine ⟨a, vs, f1 ++ (fp' ++ f2), rfl, rfl, by rw [List.length_set]; exact l, by rw [upd_ne nab]; exact ha, ?_⟩
  have q := back G (upd H b o) t' (.ref b) fp' (Same.refl _) (fun p hp => upd_ne fun z => ?_) h
  ·rw [sv] at q; exact q
  ·rcases hp with hp | hp
   ·exact d1 p hp b (by simp) z
   ·exact d2 b (by simp) p hp z.symm
 ·rw [List.nodup_cons, List.nodup_append, List.nodup_append]
  refine ⟨fun hp => ?_, n1, ⟨nd', n2, fun p hp q hq => d2 p (sub p hp) q hq⟩, fun p hp q hq => ?_⟩
  ·rcases List.mem_append.mp hp with hp | hp
   ·exact na (List.mem_append_left _ hp)
   ·rcases List.mem_append.mp hp with hp | hp
    ·exact na (List.mem_append_right _ (List.mem_append_left _ (sub a hp)))
    ·exact na (List.mem_append_right _ (List.mem_append_right _ hp))
  ·rcases List.mem_append.mp hq with hq | hq
   ·exact d1 p hp q (List.mem_append_left _ (sub q hq))
   ·exact d1 p hp q (List.mem_append_right _ hq)
 ·rw [e2, ef, eb]
  rcases List.mem_cons.mp hp with rfl | hp
  ·simp
  ·rcases List.mem_append.mp hp with hp | hp
   ·exact List.mem_cons_of_mem _ (List.mem_append_left _ hp)
   ·rcases List.mem_append.mp hp with hp | hp
    ·exact List.mem_cons_of_mem _ (List.mem_append_right _ (List.mem_append_left _ (sub p hp)))
    ·exact List.mem_cons_of_mem _ (List.mem_append_right _ (List.mem_append_right _ hp))
end
theorem list_extend_tup (l : Addr) (items : Array Value) (n : Nat) (b : Addr) (od : Option Addr) (sl : Array (Option Value)) (items2 : Array Value) (n2 : Nat) (hs0 : ¬(!items.isEmpty && Builtin.List.listTooLong (items.size + items2.size)) = true) (hs1 : items.size ≤ sizeLine) (hs2 : items.size + items2.size ≤ sizeLine + 1) :
  Meets (Builtin.«list.extend» ⟨[.ref l, .ref b], []⟩) (fun _ R s => s.heap.get? l = some { cls := .type "list", dict := none, data := .seq items n, slots := #[] } ∧ s.heap.get? b = some { cls := .type "tuple", dict := od, data := .seq items2 n2, slots := sl } ∧ R (.ok (.ret Value.none)) { s with heap := s.heap.update l (Obj.mapSeq fun x => x ++ items2), toks := s.toks }) :=
 .of_wp fun prog w A R s h => by
  obtain ⟨hp, g, d, tk, os⟩ := s; obtain ⟨hl, hb, h⟩ := h; have f1 := AutoSeq1.idx_int; have f2 := AutoSeq1.sub_tuple_tuple; have f3 := AutoSeq1.sub_list_list; have f4 := AutoSeq1.sub_tuple_list; have f5 := AutoSeq1.sub_list_tuple
  have hz' : (items ++ items2).size ≤ sizeLine + 1 := by rw [Array.size_append]; exact hs2
  wp_walk using (wpAny_updateSeq hl rfl (hz := hs1) (_hz' := hz')), AutoSeq1.wpAny_loadPart' hl, AutoSeq1.wpAny_loadPart' hb; exact ⟨_, rfl, h⟩
def rExt2 (K : PySem.W.Frag) : V → List V → Hp → VK → Prop := fun x vs H Q => ∃ l b xs zs, x = .ref l ∧ vs = [.ref b] ∧ H l = some (.lst xs) ∧ (H b = some (.lst zs) ∨ SqT K H b zs) ∧ xs.length + zs.length ≤ sizeLine ∧ Q .non (upd H l (.lst (xs ++ zs)))
theorem mt_ext2 {X : Cx} : MtM X "list.extend" (rExt2 X.K) := by
 rintro pins s σ H x vs v us Q I rx rv ⟨l, b, xs, zs, rfl, rfl, hH, hB, hz, q⟩
 rcases hB with hB | hB
 ·exact mt_extend pins s σ H _ _ v us Q I rx rv ⟨l, b, xs, zs, rfl, rfl, hH, hB, hz, q⟩
 ·cases rx
  obtain ⟨u, rfl, ru⟩ := rv.one
  cases ru
  obtain ⟨z, its, n, r, hl, e⟩ := I.lstM hH
  obtain ⟨its2, r2, ⟨o2, e2, hc2, n2, hd2⟩, z2⟩ := I.tuple hB
  obtain ⟨oc, od, dt, sl⟩ := o2
  dsimp only at hc2 hd2
  subst hc2 hd2
  have hl2 := r2.length
  have hsz : its.toArray.size + its2.toArray.size ≤ sizeLine := by rw [List.size_toArray, List.size_toArray]; omega
  have hlong : ¬ (!its.toArray.isEmpty && Builtin.List.listTooLong (its.toArray.size + its2.toArray.size)) = true := by
   rw [notLongL hsz, Bool.and_false]
   exact Bool.false_ne_true
  refine call_meets PySem.F.slot_list_extend ⟨_, e, rfl⟩ PySem.F.entry_list_extend (PySem.F.args_list_extend_2 _ _)
   (list_extend_tup l its.toArray n b od sl its2.toArray n2 hlong (by rw [List.size_toArray]; omega) (by omega)) ⟨e, e2, ?_⟩
  refine ⟨.non, _, I.lset (its' := its ++ its2) hH e (by simp) (r.append r2) ?_, rfl, q⟩
  rw [List.length_append]
  omega
section
variable {X : Cx} {W : WW} {io : List Nat} {e ei ej : Expr} {f fi fj : En → Res D} {fo : En → Res OT} {pos ppos pos' apos cpos : Pos} {x : Str}
def app (i : Nat) (f : En → Res D) (ρ : En) : Flw := match ρ[i]? with
 | some (some (.lst ts)) => bindF (f ρ) ρ fun d => if ts.length < 16777216 then .nx (ρ.set i (some (.lst (ts ++ [.d d])))) else .bad
 | _ => .bad
theorem sz_lt {n : Nat} (h : n < 16777216) : n < sizeLine := by rw [sizeLine_eq]; exact h
theorem tyV_lst {K : PySem.W.Frag} {H : Hp} {a : Addr} {vs : List V} (h : H a = some (.lst vs)) : tyV K "list" (.ref a) H := .inl ⟨rfl, vs, SqL.of h⟩
theorem S1.app (i : Nat) (h : EF X W e f) (hN : X.N[i]? = some x := by rfl) (hv : Vis X.env.scope x := by first | exact Or.inl rfl | exact Or.inr (Or.inl rfl) | exact Or.inr (Or.inr rfl)) (hd : (x == ("__debug__" : Str)) = false := by decide) (hcd : (x == ("__classdict__" : Str)) = false := by decide)
  (hs : starEach [e] X.env = (false, eval e X.env) :: starEach [] X.env := by rfl) (hline : (apos.endLine == cpos.line) = true := by rfl)
  (hbase : attributeBase (.Name x ppos) "append" X.env (eval (.Name x ppos) X.env) = eval (.Name x ppos) X.env := by rfl)
  (hfew : ((backTo cpos (starEach [e] X.env)).all (fun x => !x.1) && (backToKw cpos (keywordEach [] X.env)).all (fun x => x.1.isSome) && decide ([e].length + ([] : List Keyword).length + (if ([] : List Keyword).isEmpty then 0 else 1) < 30)) = true := by rfl)
  (hsw : swapsWith (.Call (.Attribute (.Name x ppos) "append" apos) [e] [] cpos) none pos.line X.env = pure false := by rfl) :
  S1 X W io (.Expr (.Call (.Attribute (.Name x ppos) "append" apos) [e] [] cpos) pos) (app i f) := ⟨fun B hB =>
 PS.mono (ps_expr (pe_bm PySem.F.plainAttrs_list PySem.F.slot_list_append PySem.F.type_list_append mt_append (pe_var (i := i) hN hv hd hcd) (pa_cons (h.run B) pa_nil hs) hbase hfew hline hs (by rfl)) hsw) fun N σ H ⟨G, ρ, r, h⟩ => by
  unfold FL.app at h
  split at h
  ·rename_i ts es
   obtain ⟨a, vs, fs, hv, l, ha, ro, nd, back⟩ := r.lst es
   refine ⟨.ref a, hv, tyV_lst ha, lift.of r h fun d y G1 H1 r1 s1 q1 o => ?_⟩
   obtain ⟨a', vs', fs', hv', l', ha', ro', nd', back'⟩ := r1.lst es
   rw [hv] at hv'
   cases hv'
   split at o
   ·rename_i hl
    refine ⟨a, vs', y, rfl, rfl, ha', by rw [ro'.len]; exact sz_lt hl, o _ _ _ (back' _ _ (a :: fs') ?_ nd' fun p hp => hp)⟩
    refine ⟨a, _, fs', rfl, rfl, by rw [List.length_append]; exact sz_lt hl, upd_same, ?_⟩
    have q := ROs.append (ro'.frame (Same.refl _) (H' := upd H1 a (.lst (vs' ++ [y]))) fun p hp => upd_ne fun z => (List.nodup_cons.mp nd').1 (z ▸ hp)) (ROs.one (RO.dd (H := upd H1 a (.lst (vs' ++ [y]))) q1))
    rw [List.append_nil] at q
    exact q
   ·exact o.elim
  ·exact h.elim⟩
def ext (i : Nat) (f : En → Res D) (ρ : En) : Flw := match ρ[i]? with
 | some (some (.lst ts)) => bindF (f ρ) ρ fun d => match d with
  | .lst ds => if ts.length + ds.length ≤ 16777216 then .nx (ρ.set i (some (.lst (ts ++ ds.map .d)))) else .bad
  | .tup ds => if ts.length + ds.length ≤ 16777216 then .nx (ρ.set i (some (.lst (ts ++ ds.map .d)))) else .bad
  | _ => .bad
 | _ => .bad
theorem S1.ext (i : Nat) (h : EF X W e f) (hN : X.N[i]? = some x := by rfl) (hv : Vis X.env.scope x := by first | exact Or.inl rfl | exact Or.inr (Or.inl rfl) | exact Or.inr (Or.inr rfl)) (hd : (x == ("__debug__" : Str)) = false := by decide) (hcd : (x == ("__classdict__" : Str)) = false := by decide)
  (hs : starEach [e] X.env = (false, eval e X.env) :: starEach [] X.env := by rfl) (hline : (apos.endLine == cpos.line) = true := by rfl)
  (hbase : attributeBase (.Name x ppos) "extend" X.env (eval (.Name x ppos) X.env) = eval (.Name x ppos) X.env := by rfl)
  (hfew : ((backTo cpos (starEach [e] X.env)).all (fun x => !x.1) && (backToKw cpos (keywordEach [] X.env)).all (fun x => x.1.isSome) && decide ([e].length + ([] : List Keyword).length + (if ([] : List Keyword).isEmpty then 0 else 1) < 30)) = true := by rfl)
  (hsw : swapsWith (.Call (.Attribute (.Name x ppos) "extend" apos) [e] [] cpos) none pos.line X.env = pure false := by rfl) :
  S1 X W io (.Expr (.Call (.Attribute (.Name x ppos) "extend" apos) [e] [] cpos) pos) (ext i f) := ⟨fun B hB =>
 PS.mono (ps_expr (pe_bm PySem.F.plainAttrs_list PySem.F.slot_list_extend PySem.F.type_list_extend mt_ext2 (pe_var (i := i) hN hv hd hcd) (pa_cons (h.run B) pa_nil hs) hbase hfew hline hs (by rfl)) hsw) fun N σ H ⟨G, ρ, r, h⟩ => by
  unfold FL.ext at h
  split at h
  ·rename_i ts es
   obtain ⟨a, vs, fs, hv, l, ha, ro, nd, back⟩ := r.lst es
   refine ⟨.ref a, hv, tyV_lst ha, lift.of r h fun d y G1 H1 r1 s1 q1 o => ?_⟩
   obtain ⟨a', vs', fs', hv', l', ha', ro', nd', back'⟩ := r1.lst es
   rw [hv] at hv'
   cases hv'
   split at o
   ·rename_i ds
    split at o
    ·rename_i hl
     obtain ⟨b, us, rfl, lb, hb, qb⟩ := R.lst q1
     have hab : a ≠ b := fun z => by
      have hg : G1 a = none := by
       obtain ⟨F, f⟩ := r1.sl
       obtain ⟨v, x1, x2⟩ := f.rep i _ es
       obtain ⟨a2, _, _, x3, x4, _⟩ := x2
       rw [x3] at x1
       rw [hv] at x1
       cases x1
       exact (f.at_ i a (by rw [x4]; exact List.mem_cons_self)).2.1.no ha'
      rw [z, hb] at hg; cases hg
     refine ⟨a, b, vs', us, rfl, rfl, ha', .inl (r1.gh _ _ hb), by rw [ro'.len, qb.len]; exact sz_le hl, o _ _ _ (back' _ _ (a :: fs') ?_ nd' fun p hp => hp)⟩
     refine ⟨a, _, fs', rfl, rfl, by rw [List.length_append, List.length_map]; exact sz_le hl, upd_same, ?_⟩
     have q := ROs.append (ro'.frame (Same.refl _) (H' := upd H1 a (.lst (vs' ++ us))) fun p hp => upd_ne fun z => (List.nodup_cons.mp nd').1 (z ▸ hp)) (ROs.dds (H := upd H1 a (.lst (vs' ++ us))) qb)
     rw [List.append_nil] at q
     exact q
    ·exact o.elim
   ·rename_i ds
    split at o
    ·rename_i hl
     obtain ⟨b, us, rfl, lb, hb, qb⟩ := R.tup q1
     have hab : a ≠ b := fun z => by
      have hg : G1 a = none := by
       obtain ⟨F, f⟩ := r1.sl
       obtain ⟨v, x1, x2⟩ := f.rep i _ es
       obtain ⟨a2, _, _, x3, x4, _⟩ := x2
       rw [x3] at x1
       rw [hv] at x1
       cases x1
       exact (f.at_ i a (by rw [x4]; exact List.mem_cons_self)).2.1.no ha'
      rw [z, hb] at hg; cases hg
     refine ⟨a, b, vs', us, rfl, rfl, ha', .inr (SqT.of (r1.gh _ _ hb)), by rw [ro'.len, qb.len]; exact sz_le hl, o _ _ _ (back' _ _ (a :: fs') ?_ nd' fun p hp => hp)⟩
     refine ⟨a, _, fs', rfl, rfl, by rw [List.length_append, List.length_map]; exact sz_le hl, upd_same, ?_⟩
     have q := ROs.append (ro'.frame (Same.refl _) (H' := upd H1 a (.lst (vs' ++ us))) fun p hp => upd_ne fun z => (List.nodup_cons.mp nd').1 (z ▸ hp)) (ROs.dds (H := upd H1 a (.lst (vs' ++ us))) qb)
     rw [List.append_nil] at q
     exact q
    ·exact o.elim
   ·exact o.elim
  ·exact h.elim⟩
def setLL (s : Nat) (fi fj f : En → Res D) (ρ : En) : Flw := match ρ[s]? with
 | some (some (.lst ts)) => bindF (f ρ) ρ fun d => bindF (fi ρ) ρ fun k => match k with
  | .int k => match ixN ts.length k with
   | some j => match ts[j]? with
    | some (.lst us) => bindF (fj ρ) ρ fun k2 => match k2 with
     | .int k2 => match ixN us.length k2 with
      | some j2 => .nx (ρ.set s (some (.lst (ts.set j (.lst (us.set j2 (.d d)))))))
      | none => .bad
     | _ => .bad
    | _ => .bad
   | none => .bad
  | _ => .bad
 | _ => .bad
theorem S1.setLL (s : Nat) {pm : Pos} (h : EF X W e f) (hi : EF X W ei fi) (hj : EF X W ej fj) (hN : X.N[s]? = some x := by rfl) (hv : Vis X.env.scope x := by first | exact Or.inl rfl | exact Or.inr (Or.inl rfl) | exact Or.inr (Or.inr rfl)) (hd : (x == ("__debug__" : Str)) = false := by decide) (hcd : (x == ("__classdict__" : Str)) = false := by decide)
  (hpl : PlainIx ei := by intro _ _; rfl)
  (ha : ∀ v, assign (.Subscript (.Subscript (.Name x ppos) ei pm) ej pos') X.env v = (do
   let ov ← holding [v] (eval (.Subscript (.Name x ppos) ei pm) X.env)
   let iv ← holding [v, ov] (eval ej X.env)
   standAt pos'
   holding [v, ov, iv] (setItem ov iv v)
   release [v, ov, iv] []) := by intro _; rfl)
  (hs : swapsWithSole [.Subscript (.Subscript (.Name x ppos) ei pm) ej pos'] e pos.line X.env = pure false := by rfl) (hw : swappedStores [.Subscript (.Subscript (.Name x ppos) ei pm) ej pos'] e X.env = pure none := by rfl)
  (h1 : (assignEach [.Subscript (.Subscript (.Name x ppos) ei pm) ej pos'] X.env).map (·.2) = [assign (.Subscript (.Subscript (.Name x ppos) ei pm) ej pos') X.env] := by rfl) :
  S1 X W io (.Assign [.Subscript (.Subscript (.Name x ppos) ei pm) ej pos'] e pos) (setLL s fi fj f) := ⟨fun B hB =>
 PS.mono (ps_asg (h.run B) (pg_sub (pe_ix ix_list (pe_var (i := s) hN hv hd hcd) (hi.run B) hpl) (hj.run B) set_list ha) hs hw h1) fun N σ H ⟨G, ρ, r, h⟩ => by
  unfold FL.setLL at h
  split at h
  ·rename_i ts es
   refine lift.of r h fun d y G1 H1 r1 s1 q1 o => ?_
   obtain ⟨a, vs, fs, hv, l, hH, ro, nd, back⟩ := r1.lst es
   refine ⟨.ref a, hv, lift.of r1 o fun k z G2 H2 r2 s2 q2 o2 => ?_⟩
   split at o2
   ·rename_i k
    split at o2
    ·rename_i j hj
     split at o2
     ·rename_i us eu
      obtain ⟨a2, vs2, b, ws, gs, hv2, ha2, hl2, hb2, lu, hb, rb, nb, back2⟩ := r2.lst2 es eu
      rw [hv] at hv2
      cases hv2
      cases q2
      refine ⟨a, vs2, k, .ref b, rfl, rfl, SqL.of ha2, ?_, lift.of r2 o2 fun k2 z2 G3 H3 r3 s3 q3 o3 => ?_⟩
      ·unfold L2.atI
       rw [hl2, hj]
       exact hb2
      ·obtain ⟨a3, vs3, b3, ws3, gs3, hv3, ha3, hl3, hb3, lu3, hbb3, rb3, nb3, back3⟩ := r3.lst2 es eu
       rw [hv] at hv3
       cases hv3
       have evs := s3.hh _ _ ha2
       rw [ha3] at evs
       cases evs
       rw [hb2] at hb3
       cases hb3
       split at o3
       ·rename_i k2
        split at o3
        ·rename_i j2 hj2
         have hjl : j2 < us.length := (ixN_seq hj2).2.1
         obtain ⟨w, f1, g, f2, hw, ef, rj, bk⟩ := rb3.at (List.getElem?_eq_getElem hjl)
         cases q3
         refine ⟨b, ws3, k2, j2, rfl, rfl, hbb3, by rw [rb3.len]; exact hj2, o3 _ _ _ (back3 _ _ (b :: (f1 ++ ([] ++ f2))) ?_ ?_ fun p hp => ?_)⟩
         ·refine ⟨b, _, _, rfl, rfl, by rw [List.length_set]; exact lu3, upd_same, bk G3 _ (.d d) y [] (Same.refl _) (fun p hp => upd_ne fun z => ?_) (RO.dd (R.mono (s2.gg.trans s3.gg) q1))⟩
          refine (List.nodup_cons.mp nb3).1 ?_
          rw [ef, ← z]
          rcases hp with hp | hp
          ·exact List.mem_append_left _ hp
          ·exact List.mem_append_right _ (List.mem_append_right _ hp)
         ·rw [ef] at nb3
          refine nb3.sublist (List.Sublist.cons_cons _ ?_)
          exact List.Sublist.append (List.Sublist.refl _) (List.sublist_append_right _ _)
         ·rw [ef]
          rcases List.mem_cons.mp hp with rfl | hp
          ·exact List.mem_cons_self
          ·refine List.mem_cons_of_mem _ ?_
           rcases List.mem_append.mp hp with hp | hp
           ·exact List.mem_append_left _ hp
           ·exact List.mem_append_right _ (List.mem_append_right _ hp)
        ·exact o3.elim
       ·exact o3.elim
     ·exact o2.elim
    ·exact o2.elim
   ·exact o2.elim
  ·exact h.elim⟩
end
end FL
namespace FL
open PySem PySem.Spec PyProof.Rows L2
inductive ResX where
 | ok (t : OT) (ρ : En) | ex (c : Exn) (ρ : En) | bad
def WrX (X : Cx) (W : WW) (B : Bs) (σ : L2.St) (r : ResX) (Q : VK) : Prop := match r with
 | .ok t ρ => ∀ v G' H', RepV X.K X.mg B G' H' σ ρ t v → Q v H'
 | .ex c ρ => W.on ∧ ∀ G' H' cls dd, Rep X.K X.mg B G' H' σ ρ → RX X.K X.mg G' H' c cls dd → W.w cls dd σ H'
 | .bad => False
structure EX (X : Cx) (W : WW) (e : Expr) (f : En → ResX) : Prop where
 run : ∀ B, PE X e fun σ H Q => ∃ G ρ, Rep X.K X.mg B G H σ ρ ∧ WrX X W B σ (f ρ) Q
section
variable {K : PySem.W.Frag} {mg : Str → Option Value} {B : Bs} {G H G' H' : Hp} {σ : L2.St} {ρ : En} {t : OT} {v : V}
theorem RepV.frozen (r : RepV K mg B G H σ ρ t v) : ∃ G', Rep K mg B G' H σ ρ ∧ R K mg G' (fz t) v := by
 obtain ⟨F, fv, f, h, nd, at_, dj⟩ := r.sl
 have g1 : Same G (fun p => if p ∈ fv then H p else G p) := fun p o q => by
  (try dsimp only); split
  ·exact r.g.gh p o q
  ·exact q
 refine ⟨fun p => if p ∈ fv then H p else G p, ⟨⟨fun p o q => ?_, r.g.oh, r.g.g0.trans g1, fun p q => ?_, r.g.io⟩, r.len, F, fun i u e => ?_, f.nd, fun i p hp => ⟨(f.at_ i p hp).1, ?_, (f.at_ i p hp).2.2⟩, f.dj⟩, h.fz g1 fun p hp => if_pos hp⟩
 ·(try dsimp only at q); split at q
  ·exact q
  ·exact r.g.gh p o q
 ·rcases r.g.og p q with z | z
  ·refine .inl ?_
   (try dsimp only); split
   ·rename_i hp; exact absurd (at_ p hp).2.2 q
   ·exact z
  ·exact .inr z
 ·obtain ⟨w, a, b⟩ := f.rep i u e
  exact ⟨w, a, b.frame g1 fun p _ => rfl⟩
 ·rcases (f.at_ i p hp).2.1 with z | z
  ·refine .inl ?_
   (try dsimp only)
   rw [if_neg (fun z => dj i p z hp)]
   exact z
  ·exact .inr z
end
section
variable {X : Cx} {W : WW} {io : List Nat} {e a b : Expr} {es : List Expr} {f fb : En → Res D} {fx : En → ResX} {fs : En → Res (List D)} {pos ppos pos' apos cpos : Pos} {x : Str}
def bindX (r : ResX) (k : OT → En → Flw) : Flw := match r with
 | .ok t ρ => k t ρ
 | .ex c ρ => .ex c ρ
 | .bad => .bad
theorem liftX.of {B : Bs} {N : Ends} {G H : Hp} {σ : L2.St} {ρ : En} {k : OT → En → Flw} {Q : VK} (rep : Rep X.K X.mg B G H σ ρ) (h : Out X W B N (bindX (fx ρ) k))
  (hk : ∀ t ρ' v G' H', RepV X.K X.mg B G' H' σ ρ' t v → Out X W B N (k t ρ') → Q v H') : ∃ G ρ, Rep X.K X.mg B G H σ ρ ∧ WrX X W B σ (fx ρ) Q := ⟨G, ρ, rep, by
 cases e : fx ρ with
 | ok t ρ' => rw [e] at h; exact fun v G' H' r => hk t ρ' v G' H' r h
 | ex c ρ' => rw [e] at h; exact ⟨h.1, fun G' H' cls dd r q => h.2 σ G' H' cls dd r q⟩
 | bad => rw [e] at h; exact h⟩
def drpX (fx : En → ResX) (ρ : En) : Flw := bindX (fx ρ) fun _ ρ' => .nx ρ'
theorem S1.dropX (h : EX X W e fx) (hs : swapsWith e none pos.line X.env = pure false := by rfl) : S1 X W io (.Expr e pos) (drpX fx) := ⟨fun B hB => PS.mono (ps_expr (h.run B) hs) fun N σ H ⟨G, ρ, r, h⟩ => liftX.of r h fun t ρ' v G' H' r' o => o _ _ _ r'.rep⟩
def asgX (i : Nat) (fx : En → ResX) (ρ : En) : Flw := bindX (fx ρ) fun t ρ' => .nx (ρ'.set i (some (.d (fz t))))
theorem S1.asgX (i : Nat) (h : EX X W e fx) (hN : X.N.Nodup) (hio : i ∉ io := by decide) (hi : X.N[i]? = some x := by rfl) (hx : Loc X.env.scope x := by first | exact .inl rfl | exact .inr rfl) (hs : swapsWith e (some (.Name x pos')) pos.line X.env = pure false := by rfl)
  (hf : X.fn x = true ∨ X.env.scope.names.lookup x = some .local := by first | exact .inl rfl | exact .inr rfl) : S1 X W io (.Assign [.Name x pos'] e pos) (asgX i fx) := ⟨fun B hB => PS.mono (ps_set hN hi hx (h.run B) hs hf) fun N σ H ⟨G, ρ, r, h⟩ =>
 liftX.of r h fun t ρ' v G' H' r' o => by
  obtain ⟨G2, r2, q⟩ := r'.frozen
  exact o _ _ _ ((r2.val q).set (io_ne hB hio))⟩
def retX (fx : En → ResX) (ρ : En) : Flw := bindX (fx ρ) fun t ρ' => .rt t ρ'
theorem S1.retX (h : EX X W e fx) : S1 X W io (.Return (some e) pos) (retX fx) := ⟨fun B hB => PS.mono (ps_ret (h.run B)) fun N σ H ⟨G, ρ, r, h⟩ => liftX.of r h fun t ρ' v G' H' r' o => o _ _ _ _ r'⟩
def mapX (fx : En → ResX) (g : D → En → Res D) (ρ : En) : ResX := match fx ρ with
 | .ok t ρ' => match g (fz t) ρ' with
  | .ok d => .ok (.d d) ρ'
  | .ex c => .ex c ρ'
  | .bad => .bad
 | .ex c ρ' => .ex c ρ'
 | .bad => .bad
theorem mapX_next {B : Bs} {G H : Hp} {σ : L2.St} {ρ : En} {g : D → En → Res D} {Q : VK} {R' : VK} (r : Rep X.K X.mg B G H σ ρ) (h : WrX X W B σ (mapX fx g ρ) Q)
  (k : ∀ d v ρ' G1 H1, Rep X.K X.mg B G1 H1 σ ρ' → R X.K X.mg G1 d v → Wr X.K X.mg (relD X.K X.mg) W σ G1 H1 (g d ρ') (fun _ v _ H' => Q v H') → R' v H1) : ∃ G ρ, Rep X.K X.mg B G H σ ρ ∧ WrX X W B σ (fx ρ) R' := ⟨G, ρ, r, by
 unfold mapX at h
 cases e : fx ρ with
 | ok t ρ' =>
  rw [e] at h
  intro v G1 H1 r1
  obtain ⟨G2, r2, q⟩ := r1.frozen
  refine k _ v ρ' G2 H1 r2 q ?_
  dsimp only at h
  cases eg : g (fz t) ρ' with
  | ok d => rw [eg] at h; exact fun w G' H' s q' => h w G' H' ((r2.step s).val q')
  | ex c => rw [eg] at h; exact ⟨h.1, fun G' H' cls dd s q => h.2 G' H' cls dd (r2.step s) q⟩
  | bad => rw [eg] at h; exact h
 | ex c ρ' => rw [e] at h; exact h
 | bad => rw [e] at h; exact h⟩
def op2X (g : D → D → Option D) (fb : En → Res D) (d : D) (ρ : En) : Res D := (fb ρ).bind fun y => ofO (g d y)
theorem rD_next {B : Bs} {σ : L2.St} {H1 G1 : Hp} {ρ' : En} {Q : VK} {g : D → D → Option D} {d : D} {v : V} (r1 : Rep X.K X.mg B G1 H1 σ ρ') (q : R X.K X.mg G1 d v) (w : Wr X.K X.mg (relD X.K X.mg) W σ G1 H1 (op2X g fb d ρ') (fun _ v _ H' => Q v H')) :
  lift X W (relD X.K X.mg) B fb σ H1 fun y H2 => rD X g v y H2 Q :=
 lift.next (rel := relD X.K X.mg) (g := fun y _ => ofO (g d y)) later_D r1 w fun e y G2 H2 r2 s2 q2 w2 => by
  cases hg : g d e with
  | none => rw [hg] at w2; exact w2.elim
  | some c => rw [hg] at w2; exact ⟨G2, d, e, c, r2.gh, R.mono s2.gg q, q2, hg, w2⟩
theorem EX.ix (hu : X.A.units + 64 < cLine) (ha : EX X W a fx) (hb : EF X W b fb) (hs : PlainIx b := by intro _ _; rfl) : EX X W (.Subscript a b pos) (mapX fx (op2X ixD fb)) := ⟨fun B => PE.mono (pe_ix (ix_ok hu) (ha.run B) (hb.run B) hs) fun σ H Q ⟨G, ρ, r, h⟩ =>
 mapX_next r h fun d v ρ' G1 H1 r1 q w => rD_next r1 q w⟩
def pop (i : Nat) (ρ : En) : ResX := match ρ[i]? with
 | some (some (.lst ts)) => match ts.getLast? with
  | some t => .ok t (ρ.set i (some (.lst ts.dropLast)))
  | none => .bad
 | _ => .bad
theorem ROs.last {K : PySem.W.Frag} {mg : Str → Option Value} {G H : Hp} : ∀ {ts : List OT} {vs : List V} {fs : List Addr} {t : OT}, ROs K mg G H ts vs fs → ts.getLast? = some t → ∃ v f1 f2, vs.getLast? = some v ∧ fs = f1 ++ f2 ∧ ROs K mg G H ts.dropLast vs.dropLast f1 ∧ RO K mg G H t v f2
 | [], _, _, _, _, h => by cases h
 | [t], _, _, u, ⟨v, r, f1, f2, e, e2, h, q⟩, eq => by
  cases eq
  obtain ⟨e3, e4⟩ := q
  subst e3 e4 e e2
  exact ⟨v, [], f1, rfl, by simp, ⟨rfl, rfl⟩, h⟩
 | t :: t2 :: ts, _, _, u, ⟨v, r, f1, f2, e, e2, h, q⟩, eq => by
  rw [List.getLast?_cons_cons] at eq
  obtain ⟨w, g1, g2, a, b, c, d⟩ := ROs.last q eq
  obtain ⟨v2, r2, _, _, e5, _⟩ := q
  subst e e2 e5
  refine ⟨w, f1 ++ g1, g2, by rw [List.getLast?_cons_cons]; exact a, by rw [b, List.append_assoc], ⟨v, _, f1, g1, rfl, rfl, h, ?_⟩, d⟩
  exact c
theorem EX.pop (i : Nat) (hN : X.N[i]? = some x := by rfl) (hv : Vis X.env.scope x := by first | exact Or.inl rfl | exact Or.inr (Or.inl rfl) | exact Or.inr (Or.inr rfl)) (hd : (x == ("__debug__" : Str)) = false := by decide) (hcd : (x == ("__classdict__" : Str)) = false := by decide)
  (hline : (apos.endLine == cpos.line) = true := by rfl) (hbase : attributeBase (.Name x ppos) "pop" X.env (eval (.Name x ppos) X.env) = eval (.Name x ppos) X.env := by rfl) :
  EX X W (.Call (.Attribute (.Name x ppos) "pop" apos) [] [] cpos) (pop i) := ⟨fun B => PE.mono (pe_bm0 PySem.F.plainAttrs_list PySem.F.slot_list_pop PySem.F.type_list_pop mt_pop (pe_var (i := i) hN hv hd hcd) hbase hline) fun σ H Q ⟨G, ρ, r, h⟩ => by
  unfold FL.pop at h
  split at h
  ·rename_i ts es
   split at h
   ·rename_i t et
    obtain ⟨F, f⟩ := r.sl
    obtain ⟨v, hv, hr⟩ := f.rep i _ es
    obtain ⟨a, vs, fs, rfl, e2, l, ha, ro⟩ := id hr
    obtain ⟨w, f1, f2, ew, ef, rd, rt⟩ := ro.last et
    have nd := f.nd i
    rw [e2, ef, List.nodup_cons, List.nodup_append] at nd
    obtain ⟨na, n1, n2, d12⟩ := nd
    refine ⟨.ref a, hv, tyV_lst ha, a, vs, w, rfl, rfl, ha, by rw [← List.getLast?_eq_getElem?]; exact ew, h w G _ ?_⟩
    have aF : a ∈ F i := by rw [e2]; exact List.mem_cons_self
    have sub1 : ∀ p ∈ a :: f1, p ∈ F i := fun p hp => by
     rw [e2, ef]
     rcases List.mem_cons.mp hp with rfl | hp
     ·exact List.mem_cons_self
     ·exact List.mem_cons_of_mem _ (List.mem_append_left _ hp)
    have sub2 : ∀ p ∈ f2, p ∈ F i := fun p hp => by rw [e2, ef]; exact List.mem_cons_of_mem _ (List.mem_append_right _ hp)
    have fr1 : ∀ p ∈ f1, upd H a (.lst vs.dropLast) p = H p := fun p hp => upd_ne fun z => na (by rw [← z]; exact List.mem_append_left _ hp)
    have fr2 : ∀ p ∈ f2, upd H a (.lst vs.dropLast) p = H p := fun p hp => upd_ne fun z => na (by rw [← z]; exact List.mem_append_right _ hp)
    have hRO : RO X.K X.mg G (upd H a (.lst vs.dropLast)) (.lst ts.dropLast) (.ref a) (a :: f1) := ⟨a, _, f1, rfl, rfl, Nat.le_trans (by rw [List.length_dropLast]; omega) l, upd_same, rd.frame (Same.refl _) fr1⟩
    have hr2 := put_core r.g r.len f es hv aF hRO (List.nodup_cons.mpr ⟨fun hp => na (List.mem_append_left _ hp), n1⟩) (fun p hp => .inl (sub1 p hp)) (fun vs z => by rw [ha] at z; cases z)
    obtain ⟨la, ga, oa⟩ := f.at_ i a aF
    refine ⟨hr2.g, hr2.len, fun j => if j = i then a :: f1 else F j, f2, ⟨fun j u q => ?_, fun j => ?_, fun j p hp => ?_, fun j k p ne hp hk => ?_⟩, rt.frame (Same.refl _) fr2, n2, fun p hp => ⟨upd_live (f.at_ i p (sub2 p hp)).1, (f.at_ i p (sub2 p hp)).2.1.upd (fun vs z => by rw [ha] at z; cases z), (f.at_ i p (sub2 p hp)).2.2⟩, fun j p hp hj => ?_⟩
    ·rcases get_set q with ⟨e1, hl, e3⟩ | ⟨ne, q⟩
     ·subst e1; cases e3
      refine ⟨.ref a, hv, ?_⟩
      rw [if_pos rfl]; exact hRO
     ·obtain ⟨w, x1, y⟩ := f.rep j u q
      refine ⟨w, x1, ?_⟩
      rw [if_neg (fun z => ne z.symm)]
      exact y.frame (Same.refl _) fun p hp => upd_ne (fun z => f.dj j i p (fun z => ne z.symm) hp (z ▸ aF))
    ·(try dsimp only); split
     ·exact List.nodup_cons.mpr ⟨fun hp => na (List.mem_append_left _ hp), n1⟩
     ·exact f.nd j
    ·(try dsimp only at hp); split at hp
     ·exact ⟨upd_live (f.at_ i p (sub1 p hp)).1, (f.at_ i p (sub1 p hp)).2.1.upd (fun vs z => by rw [ha] at z; cases z), (f.at_ i p (sub1 p hp)).2.2⟩
     ·exact ⟨upd_live (f.at_ j p hp).1, (f.at_ j p hp).2.1.upd (fun vs z => by rw [ha] at z; cases z), (f.at_ j p hp).2.2⟩
    ·(try dsimp only at hp hk)
     have inF : ∀ {j : Nat}, p ∈ (if j = i then a :: f1 else F j) → p ∈ F j := fun {j} h => by
      by_cases z : j = i
      ·rw [if_pos z] at h; rw [z]; exact sub1 p h
      ·rw [if_neg z] at h; exact h
     exact f.dj j k p ne (inF hp) (inF hk)
    ·(try dsimp only at hj)
     by_cases z : j = i
     ·rw [if_pos z] at hj
      rcases List.mem_cons.mp hj with rfl | hj
      ·exact na (List.mem_append_right _ hp)
      ·exact d12 p hj p hp rfl
     ·rw [if_neg z] at hj
      exact f.dj j i p z hj (sub2 p hp)
   ·exact h.elim
  ·exact h.elim⟩
end
def ins {α : Type} : Nat → α → List α → List α
 | 0, x, l => x :: l
 | _ + 1, x, [] => [x]
 | j + 1, x, y :: l => y :: ins j x l
inductive ResI where
 | ok (r t : OT) | ex (c : Exn) (t : OT) | bad
def spI (K : PySem.W.Frag) (mg : Str → Option Value) (on : Prop) (j : Nat) (F : OT → List D → ResI) : Sp := fun vs H Q E => ∃ G t ds vj ws fp, Same G H ∧ Rs K mg G ds ws ∧ vs = ins j vj ws ∧ RO K mg G H t vj fp ∧ fp.Nodup ∧ (∀ p ∈ fp, NG G H p) ∧ match F t ds with
 | .ok r t' => ∀ v G' H' fr ft, Same (fun p => if p ∈ fp then none else H p) H' → Same G G' → Same G' H' → (∀ p, H p ≠ none → p ∉ fp → KG G' G H p) → RO K mg G' H' r v fr → RO K mg G' H' t' vj ft → (fr ++ ft).Nodup → (∀ p ∈ fr ++ ft, NG G' H' p ∧ (H p = none ∨ p ∈ fp)) → Q v H'
 | .ex c t' => on ∧ ∀ G' H' ft cls dd, Same (fun p => if p ∈ fp then none else H p) H' → Same G G' → Same G' H' → (∀ p, H p ≠ none → p ∉ fp → KG G' G H p) → RO K mg G' H' t' vj ft → ft.Nodup → (∀ p ∈ ft, NG G' H' p ∧ (H p = none ∨ p ∈ fp)) → RX K mg G' H' c cls dd → E cls dd H'
 | .bad => False
def outer (H : Hp) (fp : List Addr) : Hp := fun p => if p ∈ fp then none else H p
section
variable {P : Program} {w : World} {K : PySem.W.Frag} {mg : Str → Option Value} {base : Heap}
end
structure CalI (P : Program) (w : World) (K : PySem.W.Frag) (mg : Str → Option Value) (base : Heap) (CX : CXT) (on : Prop) (x : Str) (k j : Nat) (F : OT → List D → ResI) : Prop where
 ex : ∃ f fd ps, FnOk P w K mg base CX k f fd ps (spI K mg on j F) ∧ mg x = some (.ref f) ∧ PySem.W.keepIn K (.ref f) = true ∧ Binds K fd ps []
structure EAI (X : Cx) (W : WW) (i j : Nat) (es : List Expr) (f : En → Res (List D)) : Prop where
 run : ∀ B, PA X es fun σ H Q => ∃ vj, σ[i]? = some (some vj) ∧ lift X W (relL X.K X.mg) B f σ H fun ws H' => Q (ins j vj ws) H'
section
variable {X : Cx} {W : WW} {e : Expr} {es : List Expr} {f : En → Res D} {fs : En → Res (List D)} {x : Str} {k j : Nat} {p pos : Pos} {CX : CXT} {on : Prop} {F : OT → List D → ResI}
theorem EAI.here (i : Nat) (h : EA X W es fs) (hN : X.N[i]? = some x := by rfl) (hv : Vis X.env.scope x := by first | exact Or.inl rfl | exact Or.inr (Or.inl rfl) | exact Or.inr (Or.inr rfl)) (hd : (x == ("__debug__" : Str)) = false := by decide) (hcd : (x == ("__classdict__" : Str)) = false := by decide)
  (hs : starEach (.Name x pos :: es) X.env = (false, eval (.Name x pos) X.env) :: starEach es X.env := by rfl) : EAI X W i 0 (.Name x pos :: es) fs := ⟨fun B => PA.mono (pa_cons (pe_var (i := i) hN hv hd hcd) (h.run B) hs) fun σ H Q ⟨vj, hv, q⟩ => ⟨vj, hv, q⟩⟩
theorem EAI.there {i : Nat} (h : EF X W e f) (h2 : EAI X W i j es fs) (hs : starEach (e :: es) X.env = (false, eval e X.env) :: starEach es X.env := by rfl) : EAI X W i (j + 1) (e :: es) (consA f fs) := ⟨fun B => PA.mono (pa_cons (h.run B) (h2.run B) hs) fun σ H Q ⟨vj, hv, G, ρ, r, q⟩ =>
 lift.next (rel := relD X.K X.mg) (g := fun d ρ => (fs ρ).bind fun ds => .ok (d :: ds)) later_L r q fun a b G1 H1 r1 s q1 w =>
  ⟨vj, hv, lift.next (rel := relL X.K X.mg) (g := fun ds _ => .ok (a :: ds)) later_L r1 w fun as bs G2 H2 r2 s2 q2 w2 => Wr.ok (rel := relL X.K X.mg) (k := fun _ ws _ H' => Q (ins (j + 1) vj ws) H') w2 (Stp.refl r2.gh) ⟨b, bs, rfl, R.mono s2.gg q1, q2⟩⟩⟩
def callI (F : OT → List D → ResI) (i : Nat) (fs : En → Res (List D)) (ρ : En) : ResX := match ρ[i]? with
 | some (some t) => match fs ρ with
  | .ok ds => match F t ds with
   | .ok r t' => .ok r (ρ.set i (some t'))
   | .ex c t' => .ex c (ρ.set i (some t'))
   | .bad => .bad
  | .ex c => .ex c ρ
  | .bad => .bad
 | _ => .bad
theorem callI_back {B : Bs} {K : PySem.W.Frag} {mg : Str → Option Value} {G H G' H' : Hp} {σ : L2.St} {ρ : En} {i : Nat} {t t' : OT} {vj : V} {FF : Nat → List Addr} (g : Gr B G H σ) (hlen : ρ.length = σ.length) (f : Slots K mg B G H σ ρ FF) (e : ρ[i]? = some (some t)) (hv : σ[i]? = some (some vj))
  (o1 : Same (fun p => if p ∈ FF i then none else H p) H') (o2 : Same G G') (o3 : Same G' H') (o4 : ∀ p, H p ≠ none → p ∉ FF i → KG G' G H p) {ft : List Addr} (rt : RO K mg G' H' t' vj ft) (nd : ft.Nodup) (at_ : ∀ p ∈ ft, NG G' H' p ∧ (H p = none ∨ p ∈ FF i)) :
  Gr B G' H' σ ∧ Slots K mg B G' H' σ (ρ.set i (some t')) (fun k => if k = i then ft else FF k) ∧ ∀ p, (H p = none ∨ p ∈ FF i) → B.O p = none ∧ ∀ k, k ≠ i → p ∉ FF k := by
 have keep : ∀ p, H p ≠ none → p ∉ FF i → H' p = H p := fun p h1 h2 => by
  cases q : H p with
  | none => exact absurd q h1
  | some o => exact o1 p o (by (try dsimp only); rw [if_neg h2]; exact q)
 have nO : ∀ p, B.O p ≠ none → H p ≠ none ∧ p ∉ FF i := fun p h => ⟨live_of g.oh h, fun z => h (f.at_ i p z).2.2⟩
 have far : ∀ p, (H p = none ∨ p ∈ FF i) → B.O p = none ∧ ∀ k, k ≠ i → p ∉ FF k := fun p h => by
  refine ⟨?_, fun k ne hk => ?_⟩
  ·cases q : B.O p with
   | none => rfl
   | some o =>
    have z := nO p (by rw [q]; exact fun z => nomatch z)
    rcases h with h | h
    ·exact absurd h z.1
    ·exact absurd h z.2
  ·rcases h with h | h
   ·exact (f.at_ k p hk).1 h
   ·exact f.dj k i p ne hk h
 refine ⟨⟨o3, fun p o h => ?_, g.g0.trans o2, fun p h => ?_, g.io⟩, ⟨fun k u q => ?_, fun k => ?_, fun k p hp => ?_, fun k l p ne hp hk => ?_⟩, far⟩
 ·have z := nO p (by rw [h]; exact fun z => nomatch z)
  rw [keep p z.1 z.2]; exact g.oh p o h
 ·have z := nO p h
  exact ((o4 p z.1 z.2).at (same_at g.oh h).symm).trans (g.og p h)
 ·rcases get_set q with ⟨e1, hl, e2⟩ | ⟨ne, q⟩
  ·subst e1; cases e2
   exact ⟨vj, hv, by rw [if_pos rfl]; exact rt⟩
  ·obtain ⟨w, a, b⟩ := f.rep k u q
   refine ⟨w, a, ?_⟩
   rw [if_neg (fun z => ne z.symm)]
   exact b.frame o2 fun p hp => keep p (f.at_ k p hp).1 (f.dj k i p (fun z => ne z.symm) hp)
 ·(try dsimp only); split
  ·exact nd
  ·exact f.nd k
 ·(try dsimp only at hp); split at hp
  ·exact ⟨rt.live p hp, (at_ p hp).1, (far p (at_ p hp).2).1⟩
  ·rename_i ne
   have n := f.dj k i p ne hp
   exact ⟨by rw [keep p (f.at_ k p hp).1 n]; exact (f.at_ k p hp).1, (o4 p (f.at_ k p hp).1 n).ng (f.at_ k p hp).2.1 (keep p (f.at_ k p hp).1 n), (f.at_ k p hp).2.2⟩
 ·(try dsimp only at hp hk)
  by_cases h1 : k = i
  ·by_cases h2 : l = i
   ·exact ne (h1.trans h2.symm)
   ·rw [if_pos h1] at hp; rw [if_neg h2] at hk
    exact (far p (at_ p hp).2).2 l h2 hk
  ·rw [if_neg h1] at hp
   by_cases h2 : l = i
   ·rw [if_pos h2] at hk
    exact (far p (at_ p hk).2).2 k h1 hp
   ·rw [if_neg h2] at hk
    exact f.dj k l p ne hp hk
theorem EX.call {i : Nat} (c : CalI X.prog X.w X.K X.mg X.base CX on x k j F) (hr : Room k X.A) (hx : ∀ σ, PassesAt CX X σ (WE W.w σ)) (hon : W.on → on) (ha : EAI X W i j (e :: es) fs) (hg : Gl X x := by rfl) (hdb : (x == ("__debug__" : Str)) = false := by decide)
  (he : starEach (e :: es) X.env = (false, eval e X.env) :: starEach es X.env := by rfl) (hpl : (backTo pos (starEach es X.env)).any (·.1) = false := by rfl) : EX X W (.Call (.Name x p) (e :: es) [] pos) (callI F i fs) := ⟨fun B => by
 obtain ⟨f, fd, ps, hf, hm, hk, hb⟩ := c.ex
 refine PE.mono (pe_callS (E := WE W.w) hf hr hg hm hk hb hx (ha.run B) hdb he hpl) fun σ H Q ⟨G, ρ, r, h⟩ => ?_
 unfold callI at h
 split at h
 ·rename_i t et
  obtain ⟨vj, _, hv, _⟩ := r.slot et
  refine ⟨vj, hv, ⟨G, ρ, r, ?_⟩⟩
  cases ef : fs ρ with
  | bad => rw [ef] at h; exact h
  | ex c => rw [ef] at h; exact ⟨h.1, fun G' H' cls dd s q => h.2 G' H' cls dd (r.step s) q⟩
  | ok ds =>
   rw [ef] at h
   intro ws G1 H1 s1 q1
   have r1 := r.step s1
   obtain ⟨FF, f1⟩ := r1.sl
   obtain ⟨vj', hv', ro⟩ := f1.rep i t et
   rw [hv] at hv'
   cases hv'
   refine ⟨G1, t, ds, vj, ws, FF i, r1.gh, q1, rfl, ro, f1.nd i, fun p hp => (f1.at_ i p hp).2.1, ?_⟩
   dsimp only at h
   cases eF : F t ds with
   | bad => rw [eF] at h; exact h
   | ok r0 t' =>
    rw [eF] at h
    intro v G' H' fr ft o1 o2 o3 o4 rv rt nd at_
    rw [List.nodup_append] at nd
    obtain ⟨g2, f2, far⟩ := callI_back r1.g r1.len f1 et hv o1 o2 o3 o4 rt nd.2.1 fun p hp => at_ p (List.mem_append_right _ hp)
    refine h v G' H' ⟨g2, by rw [List.length_set]; exact r1.len, _, fr, f2, rv, nd.1, fun p hp => ⟨rv.live p hp, (at_ p (List.mem_append_left _ hp)).1, (far p (at_ p (List.mem_append_left _ hp)).2).1⟩, fun l p hp hl => ?_⟩
    by_cases z : l = i
    ·rw [if_pos z] at hl; exact nd.2.2 p hp p hl rfl
    ·rw [if_neg z] at hl; exact (far p (at_ p (List.mem_append_left _ hp)).2).2 l z hl
   | ex c t' =>
    rw [eF] at h
    refine ⟨hon h.1, fun G' H' ft cls dd o1 o2 o3 o4 rt nd at_ q => ?_⟩
    obtain ⟨g2, f2, far⟩ := callI_back r1.g r1.len f1 et hv o1 o2 o3 o4 rt nd at_
    exact h.2 G' H' cls dd ⟨g2, by rw [List.length_set]; exact r1.len, _, f2⟩ q
 ·exact h.elim⟩
end
end FL
namespace FL
open PySem PySem.Spec PyProof.Rows L2
def fzE (f : En → Res OT) (ρ : En) : Res D := (f ρ).map fz
def ofE (f : En → Res D) (ρ : En) : Res OT := (f ρ).map .d
def tst (f : En → Res D) (ρ : En) : Res Bool := (f ρ).bind asB
def borT (f : En → Res Bool) (ρ : En) : Res Bool := match f (frz ρ) with
 | .ok b => .ok b
 | .ex x => match x.p with
  | none => .ex x
  | some _ => .bad
 | .bad => .bad
section
variable {X : Cx} {W : WW} {a b e : Expr} {es : List Expr} {f fi fa fb fc : En → Res D} {fo : En → Res OT} {t : En → Res Bool} {fs : En → Res (List D)} {pos ppos apos cpos : Pos} {x : Str}
theorem EF.ofO (h : EO X W e fo) : EF X W e (fzE fo) := EF.of_EO h
theorem EO.ofF (h : EF X W e f) : EO X W e (ofE f) := EO.of_EF h
theorem ET.v (h : EF X W e f) (he : ∀ whole, isTrue e X.env whole = (do let v ← whole; standAt e.pos; holding [v] (truthy v)) := by intro _; rfl) : ET X W e (tst f) := ET.val h he
theorem ET.c {op : CmpOp} (h : EC X W op a b f) (h1 : behindInMarks op b = false := by first | exact nobehind _ (by decide) (by decide) | rfl) : ET X W (.Compare a [op] [b] pos) (tst f) := ET.cmp h h1
theorem ET.bor (h : ET X W e t) : ET X W e (borT t) := ⟨fun B => PT.mono (h.run B) fun σ H Q ⟨G, ρ, r, h⟩ => by
 obtain ⟨G1, g1, n1, r1⟩ := r.fzAll
 refine ⟨G1, frz ρ, r1, ?_⟩
 unfold borT at h
 cases e1 : t (frz ρ) with
 | ok d =>
  rw [e1] at h
  exact fun v G' H' s q => h v _ H' (bor_stp r.gh g1 s) q
 | ex c =>
  rw [e1] at h
  dsimp only at h
  split at h
  ·rename_i ep
   refine ⟨h.1, fun G' H' cls dd s q => h.2 _ H' cls dd (bor_stp r.gh g1 s) ⟨q.1, ?_⟩⟩
   have q2 := q.2
   rw [ep] at q2 ⊢
   exact q2
  ·exact h.elim
 | bad => rw [e1] at h; exact h⟩
def bls : List D → Option (List Bool)
 | [] => some []
 | .bl b :: ds => (bls ds).map (b :: ·)
 | _ :: _ => none
def intsOf : List D → Option (List Int)
 | [] => some []
 | .int i :: ds => (intsOf ds).map (i :: ·)
 | _ :: _ => none
theorem bls_ok {K : PySem.W.Frag} {mg : Str → Option Value} {G : Hp} : ∀ {ds : List D} {vs : List V} {bs : List Bool}, Rs K mg G ds vs → bls ds = some bs → vs = bs.map V.bl
 | [], _, _, h, e => by cases e; exact h
 | d :: ds, _, bs, ⟨v, r, e, h, t⟩, q => by
  cases d <;> first | cases q | skip
  unfold bls at q
  obtain ⟨cs, hc, rfl⟩ := Option.map_eq_some_iff.mp q
  rw [e, show v = .bl _ from h, bls_ok t hc]; rfl
def allD : List D → Option D
 | [.lst ds] => (bls ds).map fun bs => .bl (bs.all id)
 | _ => none
def anyD : List D → Option D
 | [.lst ds] => (bls ds).map fun bs => .bl (bs.any id)
 | _ => none
def sumD : List D → Option D
 | [.lst ds] => (intsOf ds).map fun ns => .int ns.sum
 | _ => none
theorem all_ok (hc : X.calm = true) : CallD X (.builtin "all") allD := by
 rintro pins s σ H xs us Q I r ⟨G, ds, c, gh, q, hg, k⟩
 unfold allD at hg
 split at hg
 ·obtain ⟨v, rfl, q0⟩ := q.one
  obtain ⟨p, vs, rfl, _, e1, q1⟩ := R.lst q0
  obtain ⟨bs, hb, rfl⟩ := Option.map_eq_some_iff.mp hg
  exact cr_all hc pins s σ H _ us Q I r ⟨p, bs, rfl, by rw [← bls_ok q1 hb]; exact SqL.of (gh _ _ e1), k _ _ _ (Stp.refl gh) rfl⟩
 ·cases hg
theorem any_ok (hc : X.calm = true) : CallD X (.builtin "any") anyD := by
 rintro pins s σ H xs us Q I r ⟨G, ds, c, gh, q, hg, k⟩
 unfold anyD at hg
 split at hg
 ·obtain ⟨v, rfl, q0⟩ := q.one
  obtain ⟨p, vs, rfl, _, e1, q1⟩ := R.lst q0
  obtain ⟨bs, hb, rfl⟩ := Option.map_eq_some_iff.mp hg
  exact cr_any hc pins s σ H _ us Q I r ⟨p, bs, rfl, by rw [← bls_ok q1 hb]; exact SqL.of (gh _ _ e1), k _ _ _ (Stp.refl gh) rfl⟩
 ·cases hg
def max2 : List D → Option D
 | [.int i, .int j] => some (.int (if j > i then j else i))
 | _ => none
theorem max2_ok (hc : X.calm = true) : CallD X (.builtin "max") max2 := by
 rintro pins s σ H xs us Q I r ⟨G, ds, c, gh, q, hg, k⟩
 unfold max2 at hg
 split at hg
 ·cases hg
  obtain ⟨v, w, rfl, q, q2⟩ := q.two
  cases q; cases q2
  exact call_max2 hc pins s σ H _ us Q I r ⟨_, _, rfl, k _ _ _ (Stp.refl gh) rfl⟩
 ·cases hg
def int1 : List D → Option D
 | [.int i] => some (.int i)
 | [.bl b] => some (.int (if b then 1 else 0))
 | _ => none
theorem int1_ok : CallD X (.type "int") int1 := by
 rintro pins s σ H xs us Q I r ⟨G, ds, c, gh, q, hg, k⟩
 unfold int1 at hg
 split at hg
 ·cases hg
  obtain ⟨v, rfl, q0⟩ := q.one
  cases q0
  exact call_int1 pins s σ H _ us Q I r (.inl ⟨_, rfl, k _ _ _ (Stp.refl gh) rfl⟩)
 ·cases hg
  obtain ⟨v, rfl, q0⟩ := q.one
  cases q0
  exact call_int1 pins s σ H _ us Q I r (.inr ⟨_, rfl, k _ _ _ (Stp.refl gh) rfl⟩)
 ·cases hg
def listO : List D → Option OT
 | [.lst ds] => some (.lst (ds.map .d))
 | [.tup ds] => some (.lst (ds.map .d))
 | _ => none
theorem list_ok : CallO X (.type "list") listO := by
 rintro pins s σ H xs us Q I r ⟨G, ds, c, gh, q, hg, k⟩
 unfold listO at hg
 split at hg
 ·cases hg
  obtain ⟨v, rfl, q0⟩ := q.one
  obtain ⟨p, vs, rfl, l, e1, q1⟩ := R.lst q0
  exact call_list_of pins s σ H _ us Q I r ⟨p, vs, rfl, .inl (SqL.of (gh _ _ e1)), fun l' hl => k _ _ _ (Stp.own gh hl) (relO.newL gh hl l q1)⟩
 ·cases hg
  obtain ⟨v, rfl, q0⟩ := q.one
  obtain ⟨p, vs, rfl, l, e1, q1⟩ := R.tup q0
  exact call_list_of pins s σ H _ us Q I r ⟨p, vs, rfl, .inr (SqT.of (gh _ _ e1)), fun l' hl => k _ _ _ (Stp.own gh hl) (relO.newL gh hl l q1)⟩
 ·cases hg
def kput {κ α : Type} [DecidableEq κ] (ks : List κ) (xs : List α) (k : κ) (x : α) : List κ × List α := if k ∈ ks then (ks, List.zipWith (fun q y => if q = k then x else y) ks xs) else (ks ++ [k], xs ++ [x])
theorem kput_zip {κ : Type} [DecidableEq κ] (k : κ) (v : V) : ∀ {ks : List κ} {vs : List V}, ks.length = vs.length → putK (ks.zip vs) k v = (kput ks vs k v).1.zip (kput ks vs k v).2 := by
 intro ks vs hl
 have ha : ∀ (ks : List κ) (vs : List V), ks.length = vs.length → ((ks.zip vs).any fun kv => decide (kv.1 = k)) = decide (k ∈ ks) := by
  intro ks
  induction ks with
  | nil => intro vs _; rfl
  | cons q ks ih =>
   intro vs hl
   cases vs with
   | nil => cases hl
   | cons w vs =>
    rw [List.zip_cons_cons, List.any_cons, ih vs (by simpa using hl)]
    by_cases e : q = k
    ·simp [e]
    ·have e' : ¬ k = q := fun z => e z.symm
     simp [e, e']
 have hm : ∀ (ks : List κ) (vs : List V), ks.length = vs.length → (ks.zip vs).map (fun kv => if kv.1 = k then (kv.1, v) else kv) = ks.zip (List.zipWith (fun q y => if q = k then v else y) ks vs) := by
  intro ks
  induction ks with
  | nil => intro vs _; rfl
  | cons q ks ih =>
   intro vs hl
   cases vs with
   | nil => cases hl
   | cons w vs =>
    rw [List.zip_cons_cons, List.map_cons, List.zipWith_cons_cons, List.zip_cons_cons, ih vs (by simpa using hl)]
    by_cases e : q = k
    ·simp [e]
    ·simp [e]
 unfold putK kput
 rw [ha ks vs hl]
 by_cases e : k ∈ ks
 ·rw [if_pos (decide_eq_true e), if_pos e]; exact hm ks vs hl
 ·rw [if_neg (by simpa using e), if_neg e, List.zip_append hl]; rfl
theorem kput_len {κ α : Type} [DecidableEq κ] {ks : List κ} {xs : List α} {k : κ} {x : α} (h : ks.length = xs.length) : (kput ks xs k x).1.length = (kput ks xs k x).2.length := by
 unfold kput
 split
 ·rw [List.length_zipWith, ← h, Nat.min_self]
 ·rw [List.length_append, List.length_append, h]; rfl
theorem Rs.kput {K : PySem.W.Frag} {mg : Str → Option Value} {G : Hp} {κ : Type} [DecidableEq κ] {k : κ} {d : D} {v : V} (h : R K mg G d v) : ∀ {ks : List κ} {ds : List D} {vs : List V}, Rs K mg G ds vs → (FL.kput ks ds k d).1 = (FL.kput ks vs k v).1 ∧ Rs K mg G (FL.kput ks ds k d).2 (FL.kput ks vs k v).2 := by
 intro ks ds vs q
 unfold FL.kput
 have hz : ∀ (ks : List κ) {ds : List D} {vs : List V}, Rs K mg G ds vs → Rs K mg G (List.zipWith (fun q y => if q = k then d else y) ks ds) (List.zipWith (fun q y => if q = k then v else y) ks vs) := by
  intro ks
  induction ks with
  | nil => intro ds vs _; exact rfl
  | cons a ks ih =>
   intro ds vs q
   cases ds with
   | nil => rw [show vs = [] from q]; exact rfl
   | cons d' ds =>
    obtain ⟨w, r, e, h', t⟩ := q
    rw [e, List.zipWith_cons_cons, List.zipWith_cons_cons]
    refine ⟨_, _, rfl, ?_, ih t⟩
    split
    ·exact h
    ·exact h'
 split
 ·exact ⟨rfl, hz ks q⟩
 ·exact ⟨rfl, q.append ⟨v, [], rfl, h, rfl⟩⟩
def pairsK : List D → List Key → List D → Option (List Key × List D)
 | [], ks, xs => some (ks, xs)
 | .tup [k, x] :: r, ks, xs => (keyOf k).bind fun k => pairsK r (kput ks xs k x).1 (kput ks xs k x).2
 | _ :: _, _, _ => none
def dictO : List D → Option OT
 | [.lst ds] => (pairsK ds [] []).map fun p => .dK p.1 (p.2.map .d)
 | _ => none
theorem pairsK_ok {K : PySem.W.Frag} {mg : Str → Option Value} {G H : Hp} (gh : Same G H) : ∀ {ds : List D} {vs : List V} {ks ks' : List Key} {xs xs' : List D} {us : List V}, Rs K mg G ds vs → pairsK ds ks xs = some (ks', xs') → Rs K mg G xs us → ks.length = xs.length →
  ∃ (ps : List Addr) (kvs : List (Key × V)) (us' : List V), vs = ps.map V.ref ∧ Paired (fun p kv => SqT K H p [kV kv.1, kv.2]) ps kvs ∧ mergeK (ks.zip us) kvs = ks'.zip us' ∧ Rs K mg G xs' us' ∧ ks'.length = xs'.length
 | [], vs, ks, ks', xs, xs', us, h, e, q, hl => by
  cases e
  exact ⟨[], [], us, h, .nil, rfl, q, hl⟩
 | d :: ds, _, ks, ks', xs, xs', us, ⟨v, r, ev, h, t⟩, e, q, hl => by
  unfold pairsK at e
  split at e
  ·rename_i e1; cases e1
  ·rename_i e1
   cases e1
   rename_i ks0 xs0 a3 a2 a1 k x
   cases ek : keyOf k with
   | none => rw [ek] at e; cases e
   | some kk =>
    rw [ek, Option.bind_some] at e
    obtain ⟨a, ws, rfl, l, ea, qa⟩ := R.tup h
    obtain ⟨v1, v2, rfl, h1, h2⟩ := qa.two
    have hq := Rs.kput (k := kk) h2 (ks := ks0) q
    obtain ⟨ps, kvs, us', a1, a2, a3, a4, a5⟩ := pairsK_ok gh t e hq.2 (kput_len hl)
    refine ⟨a :: ps, (kk, v2) :: kvs, us', by rw [ev, a1]; rfl, .cons ?_ a2, ?_, a4, a5⟩
    ·show SqT K H a [kV kk, v2]
     rw [← keyOf_ok h1 ek]
     exact SqT.of (gh _ _ ea)
    ·show mergeK (putK (ks0.zip us) kk v2) kvs = _
     rw [kput_zip kk v2 (by rw [hl, q.len]), ← hq.1]
     exact a3
  ·cases e
theorem dict_ok (hc : X.calm = true) : CallO X (.type "dict") dictO := by
 rintro pins s σ H xs us Q I r ⟨G, ds, c, gh, q, hg, k⟩
 unfold dictO at hg
 split at hg
 ·obtain ⟨v, rfl, q0⟩ := q.one
  obtain ⟨p, vs, rfl, l, e1, q1⟩ := R.lst q0
  obtain ⟨⟨ks, ys⟩, hp, rfl⟩ := Option.map_eq_some_iff.mp hg
  obtain ⟨ps, kvs, us', a1, a2, a3, a4, a5⟩ := pairsK_ok gh q1 hp (us := []) rfl rfl
  refine call_dictP hc pins s σ H _ us Q I r ⟨p, ps, kvs, rfl, by rw [← a1]; exact SqL.of (gh _ _ e1), a2, fun b hb => ?_⟩
  rw [show mergeK [] kvs = ks.zip us' from a3]
  exact k _ _ _ (Stp.own gh hb) ⟨[b], ⟨b, us', [], rfl, rfl, by rw [List.length_map]; exact a5, upd_same, ROs.dds a4⟩, by simp, fun q hq => by rw [List.mem_singleton.mp hq]; exact ⟨hb, .inl (gh.free hb)⟩⟩
 ·cases hg
end
theorem hu64 {k : Nat} {A : Around} (r : Room k A) : A.units + 64 < cLine := r.units
end FL
namespace FL
open PySem PySem.Spec PyProof.Rows L2
def nobj (w : World) : Obj := { cls := .type "set", dict := none, data := .set #[] 0 (.fresh 0 0 (!w.params.followText "set-order")) }
def hp1 (w : World) (h : Heap) : Heap := h.push (nobj w)
section
variable {P : Program} {w : World} {A : Around} {E : Value → Shared → Prop} {s : Shared}
set_option maxHeartbeats 3200000 in
theorem setL_init {l : Addr} {its : Array Value} (ns : List Int) {R : Result → Shared → Prop} (hh : A.handled = none) (hl : s.heap.IsList l its) (hi : IntsAre its.toList ns) (hb : ns.length + 1 < scanBound)
  (hR : ∀ h' tk c, SetR w h' s.heap.objs.size (fun j => decide (j ∈ ns)) c → c ≤ ns.length → (∀ b o, s.heap.get? b = some o → h'.get? b = some o) → R (.ok (.ret .none)) { s with heap := h', toks := tk }) :
  codeAny (model P w) A (.call (.builtin "set.__init__") ⟨[.ref s.heap.objs.size, .ref l], []⟩) R { s with heap := hp1 w s.heap } := by
 have sz : its.size = ns.length := by
  have q := IntsAre.length hi
  rwa [Array.length_toList] at q
 have g0 : (hp1 w s.heap).get? s.heap.objs.size = some (nobj w) := Heap.get?_push_size _ rfl
 have ty : Shared.TypeIs { s with heap := hp1 w s.heap } (.ref s.heap.objs.size) "set" := ⟨_, g0, rfl⟩
 refine codeAny_call_builtin F.called_set.init.plain F.entry_set_init (check_set_init_1 ty ?_)
 have l1 : (hp1 w s.heap).IsList l its := hl.push _
 have ll : l < s.heap.objs.size := by
  obtain ⟨o, e, _⟩ := hl
  exact Heap.lt_size e
 obtain ⟨⟨oc, od, odt, osl⟩, e1, e2, n, e3⟩ := id l1
 dsimp only at e2 e3
 subst e2 e3
 have q1 := F.sub_list_set
 have q2 := F.sub_list_frozenset
 have q3 : (Value.type "list" == Value.type "dict") = false := by decide
 unfold Builtin.«set.__init__» noKeywords Builtin.Frozenset.updateFrom
 generalize hPI : pyIter = PI
 wp_walk
 subst hPI
 refine wpAny_pyIter_list l1 ?_
 refine wpAny_bind (wpAny_runValue ?_)
 have z1 : (hp1 w s.heap).objs.size = s.heap.objs.size + 1 := Heap.size_push ..
 have n1 : l ≠ (hp1 w s.heap).objs.size := by rw [z1]; exact Nat.ne_of_lt (Nat.lt_succ_of_lt ll)
 have n2 : s.heap.objs.size ∉ [(hp1 w s.heap).objs.size, l] := fun m => by
  rw [z1] at m
  rcases List.mem_cons.mp m with m | m
  ·exact Nat.ne_of_lt (Nat.lt_succ_self _) m
  ·exact Nat.ne_of_gt ll (List.mem_singleton.mp m)
 have hv : ∀ (i : Nat) (v : Value), its[i]? = some v → ∃ k t, ns[i]? = some k ∧ v = .int k t := fun i v e => by
  have hin : i < ns.length := sz ▸ (Array.getElem?_eq_some_iff.mp e).1
  obtain ⟨t, q⟩ := IntsAre.int_at hi i v (by rw [Array.getElem?_toList]; exact e)
  rw [List.getD_eq_getElem?_getD, List.getElem?_eq_getElem hin] at q
  exact ⟨ns[i], t, List.getElem?_eq_getElem hin, q⟩
 have hd3 : A.in1.in1.handled = none := by simp [hh]
 refine set_update_ints ((Walks.list hd3 _ l n1 its).toS) s.heap.objs.size n2 ns sz hb hv (its.size - 0) 0 _ (by omega) (Nat.zero_le _) ⟨⟨_, Heap.get?_push_size _ rfl, rfl, rfl⟩, l1.push _⟩ ?gStart ?gEnd
 case gStart => exact ⟨0, Nat.le_refl 0, setR_new_at (Heap.get?_push_of_some _ g0)⟩
 case gEnd =>
  rintro ⟨h', g', d', tk', os'⟩ c mv hc hS
  obtain rfl : g' = s.gens := mv.gens
  obtain rfl : d' = s.drawn := mv.drawn
  obtain rfl : os' = s.os := mv.os
  show wpAny _ _ _ _ _ _
  refine wpAny_pure ?_
  show wpAny _ _ (PySem.ret Value.none) _ _ _
  refine wpAny_pure (hR h' tk' c hS (by rw [sz] at hc; exact hc) fun b o e => ?_)
  have hlt : b < s.heap.objs.size := Heap.lt_size e
  refine mv.heap b o (fun m => ?_) (Heap.get?_push_of_some _ (Heap.get?_push_of_some _ e))
  rcases List.mem_cons.mp m with m | m
  ·exact Nat.ne_of_lt hlt m
  ·rw [List.mem_singleton.mp m, z1] at hlt
   exact absurd (Nat.lt_trans hlt (Nat.lt_succ_self _)) (Nat.lt_irrefl _)
set_option maxHeartbeats 3200000 in
theorem call_setL {l : Addr} {its : Array Value} (ns : List Int) {Q : Value → Shared → Prop} (hh : A.handled = none) (hl : s.heap.IsList l its) (hi : IntsAre its.toList ns) (hb : ns.length + 1 < scanBound)
  (h : ∀ h' tk c, SetR w h' s.heap.objs.size (fun j => decide (j ∈ ns)) c → c ≤ ns.length → (∀ b o, s.heap.get? b = some o → h'.get? b = some o) → Q (.ref s.heap.objs.size) { s with heap := h', toks := tk }) :
  wpAny (model P w) A (PySem.call (.type "set") [.ref l]) Q E s := by
 obtain ⟨c, tl, hmro⟩ := F.called_set.mro
 have k1 := F.called_set.made
 have k2 := F.called_set.sub
 refine wpAny_call (codeAny_of_tree ?_)
 show wpAny _ _ (callAny (.type "set") _) _ _ _
 refine wpAny_pure ⟨Code.quiet_builtin _ (by decide +kernel), codeAny_builtin F.entry_type_call ?_⟩
 rw [Around.under_plain (weight_type_call_type "set" [.ref l] []) rfl]
 have k3 := F.called_set.notType
 have k4 := F.called_set.canCreate
 have k5 := F.typeCall_set_1 (.ref l)
 repeat (any_goals (first | assumption | wp_step))
 refine codeAny_mono (code_set_led1 (.ref l) (E := E) (Q₁ := fun obj t => obj = .ref s.heap.objs.size ∧ t = { s with heap := hp1 w s.heap }) ⟨rfl, rfl⟩) fun r t hr => ?_
 match r, hr with
 | .error e, hr => exact hr
 | .ok (.ret obj), ⟨e1, e2⟩ =>
  subst e1 e2
  have ty : Shared.TypeIs { s with heap := hp1 w s.heap } (.ref s.heap.objs.size) "set" := ⟨_, Heap.get?_push_size _ rfl, rfl⟩
  have k6 := F.called_set.init.lookup
  have k7 := F.called_set.init.bind (.ref s.heap.objs.size)
  repeat (any_goals (first | assumption | wp_step))
  refine codeAny_mono (setL_init (R := wants (fun r t => r = .none ∧ ∃ h' tk c, t = { s with heap := h', toks := tk } ∧ SetR w h' s.heap.objs.size (fun j => decide (j ∈ ns)) c ∧ c ≤ ns.length ∧ ∀ b o, s.heap.get? b = some o → h'.get? b = some o) E) ns ?_ hl hi hb fun h' tk c x1 x2 x3 => ⟨rfl, h', tk, c, rfl, x1, x2, x3⟩) fun r2 t2 hr2 => ?_
  ·simp [hh]
  match r2, hr2 with
  | .error e, hr2 => exact hr2
  | .ok (.ret r), ⟨e3, h', tk, c, e4, x1, x2, x3⟩ =>
   subst e3 e4
   repeat (any_goals (first | assumption | wp_step))
   exact h _ _ _ x1 x2 x3
  | .ok .next, hr2 => exact hr2.elim
  | .ok .brk, hr2 => exact hr2.elim
  | .ok .cont, hr2 => exact hr2.elim
 | .ok .next, hr => exact hr.elim
 | .ok .brk, hr => exact hr.elim
 | .ok .cont, hr => exact hr.elim
end
end FL
namespace FL
open PySem PySem.Spec PyProof.Rows L2
structure Dn (K : PySem.W.Frag) (mg : Str → Option Value) (x : Str) (st : Stmt) (ps : List Str) : Prop where
 ex : ∃ f fd, Fun K x x st f fd ∧ mg x = some (.ref f) ∧ PySem.W.keepIn K (.ref f) = true ∧ Binds K fd ps []
def nx0 (F : List D → Res OT) (ds : List D) : Res OT := match F ds with
 | .ex _ => .bad
 | r => r
theorem nx0_ok {F : List D → Res OT} {ds : List D} {t : OT} (h : F ds = .ok t) : nx0 F ds = .ok t := by unfold nx0; rw [h]
theorem pxW0 {X : Cx} : ∀ σ, PassesAt (L2N.CX X.prog X.w) X σ (WE W0.w σ) := fun _ _ _ _ _ _ _ h => by
 obtain ⟨_, _, _, _, _, _, _, _, _, _, _, _, z⟩ := h
 exact z.elim
section
variable {X : Cx} {W : WW} {a b e : Expr} {es : List Expr} {f fa fb fi : En → Res D} {fs : En → Res (List D)} {x : Str} {k i j : Nat} {p pos : Pos} {CX : CXT}
theorem EF.gI {z : Int} (h : ∃ t, X.mg x = some (.int z t)) (hg : Gl X x := by rfl) (hd : (x == ("__debug__" : Str)) = false := by decide) : EF X W (.Name x pos) (c (.int z)) := by
 obtain ⟨t, hm⟩ := h
 exact EF.globI hm hg hd
theorem EF.gS {z : Str} (h : ∃ t, X.mg x = some (.str z t)) (hz : z.length ≤ sizeLine ∧ PyData.strOk z = true) (hg : Gl X x := by rfl) (hd : (x == ("__debug__" : Str)) = false := by decide) : EF X W (.Name x pos) (c (.str z)) := by
 obtain ⟨t, hm⟩ := h
 exact EF.globS hm hz hg hd
theorem EO.call0 {F : List D → Res OT} (c : Cal X.prog X.w X.K X.mg X.base CX0 False x k F) (hr : Room k X.A) (ha : EA X W (e :: es) fs) (hg : Gl X x := by rfl) (hdb : (x == ("__debug__" : Str)) = false := by decide)
  (he : starEach (e :: es) X.env = (false, eval e X.env) :: starEach es X.env := by rfl) (hpl : (backTo pos (starEach es X.env)).any (·.1) = false := by rfl) : EO X W (.Call (.Name x p) (e :: es) [] pos) (FL.call (nx0 F) fs) := ⟨fun B => by
 obtain ⟨f, fd, ps, hf, hm, hk, hb⟩ := c.ex
 refine PE.mono (pe_callS (E := WE W.w) hf hr hg hm hk hb px0 (ha.run B) hdb he hpl) fun σ H Q ⟨G, ρ, r, h⟩ => ?_
 refine lift.next (rel := relL X.K X.mg) (g := fun ds _ => nx0 F ds) later_O r h fun ds vs G1 H1 r1 s1 q1 w1 => ⟨G1, ds, r1.gh, q1, ?_⟩
 unfold nx0 at w1
 cases e : F ds with
 | ok t => rw [e] at w1; exact w1
 | ex c => rw [e] at w1; exact w1.elim
 | bad => rw [e] at w1; exact w1⟩
def itQ : D → Option (List D)
 | .lst xs => some xs
 | .tup xs => some xs
 | .str z => some (z.cps.toList.map fun c => .str ⟨#[c]⟩)
 | .scr ns => if ns.length ≤ 16777216 then some (ns.map .int) else none
 | _ => none
def itC : D → Option (List D)
 | .scr ns => if ns.length ≤ 16777216 then some (ns.map .int) else none
 | _ => none
theorem PI.or {tg : Expr} {t1 t2 : TI} (h1 : PI X tg e t1) (h2 : PI X tg e t2) : PI X tg e fun σ H R => t1 σ H R ∨ t2 σ H R := ⟨fun pins s σ H R I q => q.elim (h1.run pins s σ H R I) (h2.run pins s σ H R I)⟩
theorem walks_scr {K : PySem.W.Frag} {mg : Str → Option Value} {G : Hp} {p : Addr} {ns : List Int} (h : SqL K G p (ns.map V.int)) : Walks K mg (Itl K p) G (ns.map .int) := fun i G' H g gh => by
 have sq : SqL K H p (ns.map V.int) := gh.seq (g.seq h)
 refine ⟨fun hl => ⟨_, sq, by simpa using hl⟩, fun d hd => ?_⟩
 rw [List.getElem?_map] at hd
 obtain ⟨n, h1, rfl⟩ := Option.map_eq_some_iff.mp hd
 refine ⟨⟨_, .int n, sq, by rw [List.getElem?_map, h1]; rfl⟩, fun x H' ⟨e1, y⟩ => ?_⟩
 subst e1
 have ex := y _ sq
 rw [List.getElem?_map, h1] at ex
 cases ex
 exact ⟨G', Stp.refl gh, rfl⟩
theorem EI.scr {tg : Expr} (h : EF X W e f) : EI X W tg e (it1 itC f) := ⟨fun B => PI.mono (pi_list (h.run B)) fun σ H Q ⟨G, ρ, r, h⟩ =>
 lift.next (rel := relD X.K X.mg) (g := fun d _ => ofO (itC d)) later_I r h fun d x G1 H1 r1 s1 q1 w1 => by
  cases d <;> first | exact w1.elim | skip
  rename_i ns
  unfold itC at w1
  dsimp only at w1
  by_cases hl : ns.length ≤ 16777216
  ·rw [if_pos hl] at w1
   obtain ⟨p, rfl, q⟩ := q1
   exact ⟨p, rfl, ⟨_, r1.gh.seq q⟩, Wr.ok w1 (Stp.refl r1.gh) ⟨by rw [List.length_map]; exact sz_le hl, walks_scr q⟩⟩
  ·rw [if_neg hl] at w1
   exact w1.elim⟩
theorem it1_of {g g' : D → Option (List D)} {ρ : En} (h : ∀ d, f ρ = .ok d → g d = g' d) : it1 g f ρ = it1 g' f ρ := by
 unfold it1
 cases e : f ρ with
 | ok d => simp only [Res.bind_ok, h d e]
 | ex _ => rfl
 | bad => rfl
theorem EI.sq {tg : Expr} (h : EF X W e f) : EI X W tg e (it1 itQ f) := ⟨fun B => PI.mono (PI.or ((EI.list h).run B) (PI.or ((EI.tup h).run B) (PI.or ((EI.str h).run B) ((EI.scr h).run B)))) fun σ H Q ⟨G, ρ, r, h⟩ => by
 have go : ∀ {g : D → Option (List D)}, (∀ d, f ρ = .ok d → g d = itQ d) → lift X W (relI X.K X.mg) B (it1 g f) σ H Q := fun hg => ⟨G, ρ, r, by rw [it1_of hg]; exact h⟩
 cases e : f ρ with
 | ok d =>
  cases d with
  | lst xs => exact .inl (go fun d h => by rw [e] at h; cases h; rfl)
  | tup xs => exact .inr (.inl (go fun d h => by rw [e] at h; cases h; rfl))
  | str z => exact .inr (.inr (.inl (go fun d h => by rw [e] at h; cases h; rfl)))
  | scr ns => exact .inr (.inr (.inr (go fun d h => by rw [e] at h; cases h; rfl)))
  | _ =>
   unfold it1 at h
   rw [e] at h
   exact h.elim
 | ex c => exact .inl (go fun d h => by rw [e] at h; cases h)
 | bad => exact .inl (go fun d h => by rw [e] at h; cases h)⟩
end
end FL
namespace FL
open PySem PySem.Spec PyProof.Rows L2
def tyOf : D → Option String
 | .non => some "NoneType"
 | .bl _ => some "bool"
 | .int _ => some "int"
 | .str _ => some "str"
 | .lst _ => some "list"
 | .tup _ => some "tuple"
 | .scr _ => some "list"
 | .exn _ => none
 | .exq _ _ _ => none
 | .dK _ _ => some "dict"
 | .dT _ _ => none
 | .ins _ _ _ => none
def isiD (T : String) (d : D) : Option D := (tyOf d).bind fun t => (kitB t T).map .bl
theorem tyOf_ok {K : PySem.W.Frag} {mg : Str → Option Value} {G H : Hp} (gh : Same G H) {d : D} {x : V} {t : String} (h : R K mg G d x) (e : tyOf d = some t) : TyX K H x (.type t) := by
 cases d <;> cases e
 ·rw [show x = .non from h]; exact .base .non
 ·rw [show x = .bl _ from h]; exact .base (.bl _)
 ·rw [show x = .int _ from h]; exact .base (.int _)
 ·rw [show x = .str _ from h.1]; exact .base (.str _)
 ·obtain ⟨a, vs, rfl, _, e, _⟩ := h; exact .base (.lst (gh _ _ e))
 ·obtain ⟨a, vs, rfl, _, e, _⟩ := h; exact .base (.tup (gh _ _ e))
 ·obtain ⟨a, vs, rfl, _, e, _⟩ := h
  rcases e with e | ⟨o, e⟩
  ·exact .base (.dK (gh _ _ e))
  ·exact .fDict (gh _ _ e)
 ·obtain ⟨a, rfl, h⟩ := h
  rcases h with (h | ⟨o, h⟩) | ⟨o, its, n, h1, h2, _⟩
  ·exact .base (.lst (gh _ _ h))
  ·exact .base (.frz (gh _ _ h))
  ·exact .kList h1 h2
section
variable {X : Cx} {W : WW} {a b e : Expr} {es : List Expr} {f fa fb fi : En → Res D} {fs : En → Res (List D)} {p p2 pos : Pos}
theorem EF.isi {T : String} {y : Str} (hm : X.mg "isinstance" = none) (hm2 : X.mg y = none) (ha : EF X W a f) (hv : bootBuiltins y = some (.type T) := by decide +kernel) (hg : Gl X "isinstance" := by rfl) (hg2 : Gl X y := by rfl) (hn : y ≠ "__name__" := by decide) (hd : (y == ("__debug__" : Str)) = false := by decide)
  (hs : starEach [a, .Name y p2] X.env = (false, eval a X.env) :: starEach [.Name y p2] X.env := by rfl) (hs2 : starEach [.Name y p2] X.env = (false, eval (.Name y p2) X.env) :: starEach [] X.env := by rfl) (hpl : (backTo pos (starEach [.Name y p2] X.env)).any (·.1) = false := by rfl) :
  EF X W (.Call (.Name "isinstance" p) [a, .Name y p2] [] pos) (op1 (isiD T) f) := ⟨fun B =>
 PE.mono (pe_callB call_isi hg hm (by decide +kernel) (pa_cons (ha.run B) (pa_cons (pe_bltn (v := .ty T) hg2 hm2 hv rfl hn hd) pa_nil hs2) hs) (by decide) (by decide) hs hpl) fun σ H Q ⟨G, ρ, r, h⟩ =>
  lift.next (rel := relD X.K X.mg) (g := fun x _ => FL.ofO (isiD T x)) later_D r h fun d x G1 H1 r1 s1 q1 w1 => by
   unfold isiD at w1
   cases et : tyOf d with
   | none => rw [et] at w1; exact w1.elim
   | some t =>
    rw [et, Option.bind_some] at w1
    cases ek : kitB t T with
    | none => rw [ek] at w1; exact w1.elim
    | some k =>
     rw [ek] at w1
     exact ⟨x, .ty T, .type t, .type T, k, rfl, .ty T, tyOf_ok r1.gh q1 et, kit_ty ek, w1.ok (Stp.refl r1.gh) rfl⟩⟩
def tupleD : List D → Option D
 | [.lst ds] => some (.tup ds)
 | [.tup ds] => some (.tup ds)
 | _ => none
theorem tuple_ok : CallD X (.type "tuple") tupleD := by
 rintro pins s σ H xs us Q I r ⟨G, ds, c, gh, q, hg, k⟩
 unfold tupleD at hg
 split at hg
 ·cases hg
  obtain ⟨v, rfl, q0⟩ := q.one
  obtain ⟨p, vs, rfl, l, e1, q1⟩ := R.lst q0
  exact call_tuple_of pins s σ H _ us Q I r ⟨p, vs, rfl, .inl ⟨SqL.of (gh _ _ e1), fun l' hl => k _ _ _ (Stp.new gh hl) (R.newT (gh.free hl) l q1)⟩⟩
 ·cases hg
  obtain ⟨v, rfl, q0⟩ := q.one
  obtain ⟨p, vs, rfl, l, e1, q1⟩ := R.tup q0
  exact call_tuple_of pins s σ H _ us Q I r ⟨p, vs, rfl, .inr ⟨SqT.of (gh _ _ e1), k _ _ _ (Stp.refl gh) ⟨p, vs, rfl, l, e1, q1⟩⟩⟩
 ·cases hg
def strsOf : List D → Option (List Str)
 | [] => some []
 | .str i :: ds => (strsOf ds).map (i :: ·)
 | _ :: _ => none
theorem Rs.strs {K : PySem.W.Frag} {mg : Str → Option Value} {G : Hp} : ∀ (ns : List Str), (∀ z ∈ ns, z.length ≤ sizeLine ∧ PyData.strOk z = true) → Rs K mg G (ns.map .str) (ns.map V.str)
 | [], _ => rfl
 | n :: ns, h => ⟨_, _, rfl, ⟨rfl, h n List.mem_cons_self⟩, Rs.strs ns fun z hz => h z (List.mem_cons_of_mem _ hz)⟩
end
end FL
namespace FL
open PySem PySem.Spec PyProof.Rows L2
section
variable {K : PySem.W.Frag} {mg : Str → Option Value} {B : Bs} {G H G' H' : Hp} {σ : L2.St} {ρ : En}
theorem Rep.dK {i : Nat} {ks : List Key} {ts : List OT} (r : Rep K mg B G H σ ρ) (e : ρ[i]? = some (some (.dK ks ts))) : ∃ a vs fs, σ[i]? = some (some (.ref a)) ∧ ks.length = ts.length ∧ H a = some (.dK (ks.zip vs)) ∧ ROs K mg G H ts vs fs ∧ (a :: fs).Nodup ∧
  ∀ o t' fp', RO K mg G (upd H a o) t' (.ref a) fp' → fp'.Nodup → (∀ p ∈ fp', p ∈ a :: fs) → Rep K mg B G (upd H a o) σ (ρ.set i (some t')) := by
 obtain ⟨F, f⟩ := r.sl
 obtain ⟨v, hv, hr⟩ := f.rep i _ e
 obtain ⟨a, vs, fs, rfl, e2, l, ha, ro⟩ := id hr
 refine ⟨a, vs, fs, hv, l, ha, ro, by rw [← e2]; exact f.nd i, fun o t' fp' h nd sub => put_core r.g r.len f e hv (by rw [e2]; exact List.mem_cons_self) h nd (fun p hp => .inl (by rw [e2]; exact sub p hp)) (fun vs z => by rw [ha] at z; cases z)⟩
theorem Rep.dT {i : Nat} {ks : List (List Key)} {ts : List OT} (r : Rep K mg B G H σ ρ) (e : ρ[i]? = some (some (.dT ks ts))) : ∃ a vs fs, σ[i]? = some (some (.ref a)) ∧ ks.length = ts.length ∧ H a = some (.dT (ks.zip vs)) ∧ ROs K mg G H ts vs fs ∧ (a :: fs).Nodup ∧
  ∀ o t' fp', RO K mg G (upd H a o) t' (.ref a) fp' → fp'.Nodup → (∀ p ∈ fp', p ∈ a :: fs) → Rep K mg B G (upd H a o) σ (ρ.set i (some t')) := by
 obtain ⟨F, f⟩ := r.sl
 obtain ⟨v, hv, hr⟩ := f.rep i _ e
 obtain ⟨a, vs, fs, rfl, e2, l, ha, ro⟩ := id hr
 refine ⟨a, vs, fs, hv, l, ha, ro, by rw [← e2]; exact f.nd i, fun o t' fp' h nd sub => put_core r.g r.len f e hv (by rw [e2]; exact List.mem_cons_self) h nd (fun p hp => .inl (by rw [e2]; exact sub p hp)) (fun vs z => by rw [ha] at z; cases z)⟩
theorem ROs.kput {κ : Type} [DecidableEq κ] {k : κ} {d : D} {v : V} (h : R K mg G d v) : ∀ {ks : List κ} {ts : List OT} {vs : List V} {fs : List Addr}, ks.length = ts.length → ROs K mg G H ts vs fs →
  (FL.kput ks ts k (.d d)).1 = (FL.kput ks vs k v).1 ∧ ∃ fs', ROs K mg G H (FL.kput ks ts k (.d d)).2 (FL.kput ks vs k v).2 fs' ∧ fs'.Sublist fs := by
 intro ks ts vs fs hl q
 unfold FL.kput
 have hz : ∀ (ks : List κ) {ts : List OT} {vs : List V} {fs : List Addr}, ROs K mg G H ts vs fs → ∃ fs', ROs K mg G H (List.zipWith (fun q y => if q = k then (.d d) else y) ks ts) (List.zipWith (fun q y => if q = k then v else y) ks vs) fs' ∧ fs'.Sublist fs := by
  intro ks
  induction ks with
  | nil => intro ts vs fs q; exact ⟨[], ⟨rfl, rfl⟩, List.nil_sublist _⟩
  | cons a ks ih =>
   intro ts vs fs q
   cases ts with
   | nil => obtain ⟨e1, e2⟩ := q; subst e1 e2; exact ⟨[], ⟨rfl, rfl⟩, List.nil_sublist _⟩
   | cons t ts =>
    obtain ⟨w, r, f1, f2, e, e2, h', q'⟩ := q
    subst e e2
    obtain ⟨fs', a1, a2⟩ := ih q'
    rw [List.zipWith_cons_cons, List.zipWith_cons_cons]
    by_cases hk : a = k
    ·rw [if_pos hk, if_pos hk]
     exact ⟨fs', ⟨_, _, [], fs', rfl, rfl, RO.dd h, a1⟩, a2.trans (List.sublist_append_right _ _)⟩
    ·rw [if_neg hk, if_neg hk]
     exact ⟨f1 ++ fs', ⟨_, _, f1, fs', rfl, rfl, h', a1⟩, List.Sublist.append (List.Sublist.refl _) a2⟩
 split
 ·exact ⟨rfl, hz ks q⟩
 ·have q2 := ROs.append q (ROs.one (RO.dd (H := H) h))
  rw [List.append_nil] at q2
  exact ⟨rfl, fs, q2, List.Sublist.refl _⟩
end
theorem PSet.or {X : Cx} {t1 t2 : V → V → V → Hp → (Hp → Prop) → Prop} (h1 : PSet X t1) (h2 : PSet X t2) : PSet X fun o i v H Q => t1 o i v H Q ∨ t2 o i v H Q := by
 intro pins s σ H o i v ov iv u Q I ro ri rv h
 exact h.elim (h1 pins s σ H o i v ov iv u Q I ro ri rv) (h2 pins s σ H o i v ov iv u Q I ro ri rv)
section
variable {X : Cx} {W : WW} {io : List Nat} {e ei ej a b : Expr} {f fi fj fa fb : En → Res D} {fo : En → Res OT} {fs : En → Res (List D)} {pos ppos pos' apos cpos : Pos} {x y : Str}
def putS (s : Nat) (fi f : En → Res D) (ρ : En) : Flw := match ρ[s]? with
 | some (some (.lst ts)) => bindF (f ρ) ρ fun d => bindF (fi ρ) ρ fun k => match k with
  | .int k => match ixN ts.length k with
   | some j => .nx (ρ.set s (some (.lst (ts.set j (.d d)))))
   | none => .bad
  | _ => .bad
 | some (some (.dK ks ts)) => bindF (f ρ) ρ fun d => bindF (fi ρ) ρ fun k => match keyOf k with
  | some q => if ks.length < 16777216 then .nx (ρ.set s (some (.dK (kput ks ts q (.d d)).1 (kput ks ts q (.d d)).2))) else .bad
  | none => .bad
 | some (some (.dT ks ts)) => bindF (f ρ) ρ fun d => bindF (fi ρ) ρ fun k => match k with
  | .tup k => match keysOf k with
   | some q => if ks.length < 16777216 then .nx (ρ.set s (some (.dT (kput ks ts q (.d d)).1 (kput ks ts q (.d d)).2))) else .bad
   | none => .bad
  | _ => .bad
 | _ => .bad
theorem S1.put (s : Nat) (hu : X.A.units + 64 < cLine) (h : EF X W e f) (hi : EF X W ei fi) (hN : X.N[s]? = some x := by rfl) (hv : Vis X.env.scope x := by first | exact Or.inl rfl | exact Or.inr (Or.inl rfl) | exact Or.inr (Or.inr rfl)) (hd : (x == ("__debug__" : Str)) = false := by decide) (hcd : (x == ("__classdict__" : Str)) = false := by decide)
  (ha : ∀ v, assign (.Subscript (.Name x ppos) ei pos') X.env v = (do
   let ov ← holding [v] (eval (.Name x ppos) X.env)
   let iv ← holding [v, ov] (eval ei X.env)
   standAt pos'
   holding [v, ov, iv] (setItem ov iv v)
   release [v, ov, iv] []) := by intro _; rfl)
  (hs : swapsWithSole [.Subscript (.Name x ppos) ei pos'] e pos.line X.env = pure false := by rfl) (hw : swappedStores [.Subscript (.Name x ppos) ei pos'] e X.env = pure none := by rfl)
  (h1 : (assignEach [.Subscript (.Name x ppos) ei pos'] X.env).map (·.2) = [assign (.Subscript (.Name x ppos) ei pos') X.env] := by rfl) :
  S1 X W io (.Assign [.Subscript (.Name x ppos) ei pos'] e pos) (putS s fi f) := ⟨fun B hB =>
 PS.mono (ps_asg (h.run B) (pg_sub (pe_var (i := s) hN hv hd hcd) (hi.run B) (PSet.or set_list (set_dict (by omega))) ha) hs hw h1) fun N σ H ⟨G, ρ, r, h⟩ => by
  unfold putS at h
  split at h
  ·rename_i ts es
   refine lift.of r h fun d y G1 H1 r1 s1 q1 o => ?_
   obtain ⟨a, vs, fs, hv, l, hH, ro, nd, back⟩ := r1.lst es
   refine ⟨.ref a, hv, lift.of r1 o fun k z G2 H2 r2 s2 q2 o2 => ?_⟩
   obtain ⟨a', vs', fs', hv', l', ha', ro', nd', back'⟩ := r2.lst es
   rw [hv] at hv'
   cases hv'
   split at o2
   ·rename_i k
    split at o2
    ·rename_i j hj
     have hjl : j < ts.length := (ixN_seq hj).2.1
     obtain ⟨w, f1, g, f2, hw, ef, rj, bk⟩ := ro'.at (List.getElem?_eq_getElem hjl)
     cases q2
     refine .inl ⟨a, vs', k, j, rfl, rfl, ha', by rw [ro'.len]; exact hj, o2 _ _ _ (back' _ _ (a :: (f1 ++ ([] ++ f2))) ?_ ?_ fun p hp => ?_)⟩
     ·refine ⟨a, _, _, rfl, rfl, by rw [List.length_set]; exact l', upd_same, bk G2 _ (.d d) y [] (Same.refl _) (fun p hp => upd_ne fun z => ?_) (RO.dd (R.mono s2.gg q1))⟩
      refine (List.nodup_cons.mp nd').1 ?_
      rw [ef, ← z]
      rcases hp with hp | hp
      ·exact List.mem_append_left _ hp
      ·exact List.mem_append_right _ (List.mem_append_right _ hp)
     ·rw [ef] at nd'
      refine nd'.sublist (List.Sublist.cons_cons _ ?_)
      exact List.Sublist.append (List.Sublist.refl _) (List.sublist_append_right _ _)
     ·rw [ef]
      rcases List.mem_cons.mp hp with rfl | hp
      ·exact List.mem_cons_self
      ·refine List.mem_cons_of_mem _ ?_
       rcases List.mem_append.mp hp with hp | hp
       ·exact List.mem_append_left _ hp
       ·exact List.mem_append_right _ (List.mem_append_right _ hp)
    ·exact o2.elim
   ·exact o2.elim
  ·rename_i ks ts es
   refine lift.of r h fun d y G1 H1 r1 s1 q1 o => ?_
   obtain ⟨a, vs, fs, hv, l, hH, ro, nd, back⟩ := r1.dK es
   refine ⟨.ref a, hv, lift.of r1 o fun k z G2 H2 r2 s2 q2 o2 => ?_⟩
   obtain ⟨a', vs', fs', hv', l', ha', ro', nd', back'⟩ := r2.dK es
   rw [hv] at hv'
   cases hv'
   split at o2
   ·rename_i q hq
    split at o2
    ·rename_i hl
     have hlv : ks.length = vs'.length := by rw [ro'.len]; exact l'
     have q2' : R X.K X.mg G2 k z := q2
     refine .inr ⟨a, _, rfl, by rw [keyOf_ok q2' hq]; exact DPut.k ha' (by rw [List.length_zip, ← hlv, Nat.min_self]; exact sz_lt hl), o2 _ G2 _ ?_⟩
     rw [kput_zip q y hlv]
     obtain ⟨k1, fn, k2, k3⟩ := ROs.kput (k := q) (R.mono s2.gg q1) l' (ro'.frame (Same.refl _) (H' := upd H2 a (.dK ((kput ks vs' q y).1.zip (kput ks vs' q y).2))) fun p hp => upd_ne fun z => (List.nodup_cons.mp nd').1 (z ▸ hp))
     refine back' _ _ (a :: fn) ⟨a, _, fn, rfl, rfl, kput_len l', by rw [k1]; exact upd_same, k2⟩ (nd'.sublist (List.Sublist.cons_cons _ k3)) fun p hp => ?_
     rcases List.mem_cons.mp hp with rfl | hp
     ·exact List.mem_cons_self
     ·exact List.mem_cons_of_mem _ (k3.subset hp)
    ·exact o2.elim
   ·exact o2.elim
  ·rename_i ks ts es
   refine lift.of r h fun d y G1 H1 r1 s1 q1 o => ?_
   obtain ⟨a, vs, fs, hv, l, hH, ro, nd, back⟩ := r1.dT es
   refine ⟨.ref a, hv, lift.of r1 o fun k z G2 H2 r2 s2 q2 o2 => ?_⟩
   obtain ⟨a', vs', fs', hv', l', ha', ro', nd', back'⟩ := r2.dT es
   rw [hv] at hv'
   cases hv'
   split at o2
   ·rename_i k
    split at o2
    ·rename_i q hq
     split at o2
     ·rename_i hl
      have hlv : ks.length = vs'.length := by rw [ro'.len]; exact l'
      obtain ⟨b, us, rfl, _, eb, qb⟩ := R.tup q2
      refine .inr ⟨a, _, rfl, DPut.t (k := q) ha' (by rw [← keysOf_ok qb hq]; exact r2.gh _ _ eb) (by rw [List.length_zip, ← hlv, Nat.min_self]; exact sz_lt hl), o2 _ G2 _ ?_⟩
      rw [kput_zip q y hlv]
      obtain ⟨k1, fn, k2, k3⟩ := ROs.kput (k := q) (R.mono s2.gg q1) l' (ro'.frame (Same.refl _) (H' := upd H2 a (.dT ((kput ks vs' q y).1.zip (kput ks vs' q y).2))) fun p hp => upd_ne fun z => (List.nodup_cons.mp nd').1 (z ▸ hp))
      refine back' _ _ (a :: fn) ⟨a, _, fn, rfl, rfl, kput_len l', by rw [k1]; exact upd_same, k2⟩ (nd'.sublist (List.Sublist.cons_cons _ k3)) fun p hp => ?_
      rcases List.mem_cons.mp hp with rfl | hp
      ·exact List.mem_cons_self
      ·exact List.mem_cons_of_mem _ (k3.subset hp)
     ·exact o2.elim
    ·exact o2.elim
   ·exact o2.elim
  ·exact h.elim⟩
structure EPs (X : Cx) (W : WW) (pos : Pos) (ks : List (Option Expr)) (vs : List Expr) (f : En → Res (List D × List D)) : Prop where
 run : ∀ B, ∃ trs, PPs X pos ks vs trs ∧ ∀ σ H Q, lift X W (fun H1 G' H' (a : List D × List D) (b : List (V × V)) => Rs X.K X.mg G' a.1 (b.map (·.1)) ∧ Rs X.K X.mg G' a.2 (b.map (·.2))) B f σ H (fun b H' => Q b H') → tPairs trs σ H Q
def nilP (_ : En) : Res (List D × List D) := .ok ([], [])
def consP (fk fv : En → Res D) (fr : En → Res (List D × List D)) (ρ : En) : Res (List D × List D) := (fk ρ).bind fun k => (fv ρ).bind fun v => (fr ρ).bind fun r => .ok (k :: r.1, v :: r.2)
theorem EPs.nil : EPs X W pos [] [] nilP := ⟨fun B => ⟨[], pps_nil, fun σ H Q ⟨G, ρ, r, h⟩ => by
 exact Wr.ok (k := fun _ v _ H' => Q v H') h (Stp.refl r.gh) ⟨rfl, rfl⟩⟩⟩
theorem EPs.cons {ks : List (Option Expr)} {vs : List Expr} {fr : En → Res (List D × List D)} (hk : EF X W a fa) (hv : EF X W b fb) (hr : EPs X W pos ks vs fr) : EPs X W pos (some a :: ks) (b :: vs) (consP fa fb fr) := ⟨fun B => by
 obtain ⟨trs, h1, h2⟩ := hr.run B
 refine ⟨_, pps_cons (hk.run B) (hv.run B) h1, fun σ H Q ⟨G, ρ, r, h⟩ => ?_⟩
 have lt : Later (fun (H1 G' H' : Hp) (a : List D × List D) (b : List (V × V)) => Rs X.K X.mg G' a.1 (b.map (·.1)) ∧ Rs X.K X.mg G' a.2 (b.map (·.2))) := fun _ _ _ _ _ _ _ h => h
 refine lift.next (rel := relD X.K X.mg) (g := fun k ρ => (fb ρ).bind fun v => (fr ρ).bind fun r => .ok (k :: r.1, v :: r.2)) lt r h fun k x G1 H1 r1 s1 q1 w1 => ?_
 refine lift.next (rel := relD X.K X.mg) (g := fun v ρ => (fr ρ).bind fun r => .ok (k :: r.1, v :: r.2)) lt r1 w1 fun v y G2 H2 r2 s2 q2 w2 => ?_
 refine h2 σ H2 _ (lift.next (g := fun r _ => .ok (k :: r.1, v :: r.2)) lt r2 w2 fun l ps G3 H3 r3 s3 q3 w3 => ?_)
 exact Wr.ok (k := fun _ v _ H' => Q v H') w3 (Stp.refl r3.gh) ⟨⟨x, _, rfl, R.mono (s2.gg.trans s3.gg) q1, q3.1⟩, y, _, rfl, R.mono s3.gg q2, q3.2⟩⟩
def putAll {α : Type} : List Key → List α → List Key → List α → List Key × List α
 | k :: ks, x :: xs, ls, ys => putAll ks xs (kput ls ys k x).1 (kput ls ys k x).2
 | _, _, ls, ys => (ls, ys)
def dispO (p : List D × List D) : Option OT := (keysOf p.1).bind fun ks => if ks.length ≤ 15 then some (.dK (putAll ks p.2 [] []).1 ((putAll ks p.2 [] []).2.map .d)) else none
def disp (f : En → Res (List D × List D)) (ρ : En) : Res OT := (f ρ).bind fun p => FL.ofO (dispO p)
theorem putAll_ok {K : PySem.W.Frag} {mg : Str → Option Value} {G : Hp} : ∀ {ks : List Key} {ds : List D} {vs : List V} {ls : List Key} {es : List D} {us : List V}, Rs K mg G ds vs → Rs K mg G es us → ls.length = es.length → ks.length = ds.length →
  mergeK (ls.zip us) (ks.zip vs) = (putAll ks ds ls es).1.zip (putAll ks vs ls us).2 ∧ Rs K mg G (putAll ks ds ls es).2 (putAll ks vs ls us).2 ∧ (putAll ks ds ls es).1.length = (putAll ks ds ls es).2.length
 | [], ds, vs, ls, es, us, h, q, hl, hk => by
  cases ds with
  | nil => cases (show vs = [] from h); exact ⟨rfl, q, hl⟩
  | cons _ _ => cases hk
 | k :: ks, [], _, _, _, _, _, _, _, hk => by cases hk
 | k :: ks, d :: ds, _, ls, es, us, ⟨v, r, e, h, t⟩, q, hl, hk => by
  subst e
  have hq := Rs.kput (k := k) h (ks := ls) q
  obtain ⟨i1, i2, i3⟩ := putAll_ok (ks := ks) t hq.2 (kput_len hl) (by simpa using hk)
  refine ⟨?_, ?_, i3⟩
  ·show mergeK (putK (ls.zip us) k v) (ks.zip r) = _
   rw [kput_zip k v (by rw [hl, q.len]), ← hq.1]
   rw [i1]
   show _ = (putAll ks ds (FL.kput ls es k d).1 (FL.kput ls es k d).2).1.zip (putAll ks r (FL.kput ls us k v).1 (FL.kput ls us k v).2).2
   rw [hq.1]
  ·show Rs K mg G (putAll ks ds (FL.kput ls es k d).1 (FL.kput ls es k d).2).2 (putAll ks r (FL.kput ls us k v).1 (FL.kput ls us k v).2).2
   rw [← hq.1]
   exact i2
theorem pairs_eq : ∀ {ps : List (V × V)} {kk : List Key}, ps.map (·.1) = kk.map kV → ps = (kk.zip (ps.map (·.2))).map (fun kv => (kV kv.1, kv.2))
 | [], [], _ => rfl
 | [], _ :: _, h => by cases h
 | _ :: _, [], h => by cases h
 | p :: ps, k :: kk, h => by
  rw [List.map_cons, List.map_cons] at h
  injection h with h1 h2
  rw [List.map_cons, List.zip_cons_cons, List.map_cons, ← pairs_eq h2, ← h1]
theorem EO.disp {ks : List (Option Expr)} {vs : List Expr} {fr : En → Res (List D × List D)} (h : EPs X W pos ks vs fr) (hall : ks.all (·.isSome) = true := by rfl) (hl : ks.length = vs.length := by rfl) (h0 : ks ≠ [] := by exact List.cons_ne_nil _ _) (h15 : ks.length ≤ 15 := by decide) : EO X W (.Dict ks vs pos) (FL.disp fr) := ⟨fun B => by
 obtain ⟨trs, h1, h2⟩ := h.run B
 refine PE.mono (pe_disp h1 hall hl h0 h15) fun σ H Q ⟨G, ρ, r, h⟩ p hp => ?_
 have so := Stp.own (o := .dK []) r.gh hp
 have r' := r.step so
 have hG : G p = none := r.gh.free hp
 refine h2 σ _ _ ⟨G, ρ, r', ?_⟩
 unfold FL.disp at h
 cases e : fr ρ with
 | bad => rw [e] at h; exact h
 | ex c => rw [e] at h; exact ⟨h.1, fun G' H' cls dd s q => h.2 G' H' cls dd (so.trans s) q⟩
 | ok l =>
  rw [e] at h
  intro ps G' H' s ⟨q1, q2⟩
  have hp' : H' p = some (.dK []) := s.hh _ _ upd_same
  have gp : G' p = none := ((s.old p (by rw [upd_same]; exact fun z => nomatch z)).ng (.inl hG) (same_at s.hh (by rw [upd_same]; exact fun z => nomatch z))).no (s.hh _ _ upd_same)
  refine ⟨hp', ?_⟩
  change Wr X.K X.mg (relO X.K X.mg) W σ G H (FL.ofO (dispO l)) _ at h
  unfold dispO at h
  cases ek : keysOf l.1 with
  | none => rw [ek] at h; exact h.elim
  | some kk =>
   rw [ek, Option.bind_some] at h
   by_cases h15' : kk.length ≤ 15
   ·rw [if_pos h15'] at h
    have ekk := keysOf_ok q1 ek
    have hlen : kk.length = (ps.map (·.2)).length := by
     have z := congrArg List.length ekk
     rw [List.length_map, List.length_map] at z
     rw [List.length_map]; exact z.symm
    refine ⟨kk.zip (ps.map (·.2)), pairs_eq ekk, by rw [List.length_zip]; omega, ?_⟩
    have hk : kk.length = l.2.length := by rw [hlen, q2.len]
    obtain ⟨i1, i2, i3⟩ := putAll_ok (ks := kk) q2 (Rs.nil (K := X.K) (mg := X.mg) (G := G')) (ls := []) rfl hk
    have i1' : mergeK [] (kk.zip (ps.map (·.2))) = _ := i1
    rw [i1']
    have st : Stp G H G' (upd H' p (.dK ((putAll kk l.2 [] []).1.zip (putAll kk (ps.map (·.2)) [] []).2))) := by
     have s2 := so.trans s
     refine ⟨fun q o e => ?_, s2.gg, fun q o e => ?_, s2.old⟩
     ·rw [upd_ne (fun z => by rw [z, hp] at e; cases e)]; exact s2.hh q o e
     ·rw [upd_ne (fun z => by rw [z, gp] at e; cases e)]; exact s2.gh q o e
    refine Wr.ok (rel := relO X.K X.mg) (k := fun _ v _ H' => Q v H') h st ⟨[p], ⟨p, _, [], rfl, rfl, by rw [List.length_map]; exact i3, upd_same, ROs.dds i2⟩, by simp, fun q hq => ?_⟩
    rw [List.mem_singleton.mp hq]; exact ⟨hp, .inl gp⟩
   ·rw [if_neg h15'] at h; exact h.elim⟩
def oix2 (s : Nat) (fi fj : En → Res D) (ρ : En) : Res D := match ρ[s]? with
 | some (some (.lst ts)) => (fi ρ).bind fun k => match k with
  | .int k => match L2.atI ts k with
   | some (.lst us) => (fj ρ).bind fun m => match m with
    | .int m => match L2.atI us m with
     | some (.d x) => .ok x
     | _ => .bad
    | _ => .bad
   | _ => .bad
  | _ => .bad
 | _ => .bad
theorem L2at {α : Type} {xs : List α} {k : Int} {x : α} (h : L2.atI xs k = some x) : ∃ j, ixN xs.length k = some j ∧ xs[j]? = some x := by
 unfold L2.atI at h
 cases e : ixN xs.length k with
 | none => rw [e] at h; cases h
 | some j => rw [e] at h; exact ⟨j, rfl, by simpa using h⟩
theorem EF.oix2 (s : Nat) (hi : EF X W a fi) (hj : EF X W b fj) (hN : X.N[s]? = some x := by rfl) (hv : Vis X.env.scope x := by first | exact Or.inl rfl | exact Or.inr (Or.inl rfl) | exact Or.inr (Or.inr rfl)) (hd : (x == ("__debug__" : Str)) = false := by decide) (hcd : (x == ("__classdict__" : Str)) = false := by decide)
  (hs : PlainIx a := by intro _ _; rfl) (hs2 : PlainIx b := by intro _ _; rfl) : EF X W (.Subscript (.Subscript (.Name x ppos) a pos') b pos) (FL.oix2 s fi fj) := ⟨fun B => PE.mono (pe_ix ix_list (pe_ix ix_list (pe_var (i := s) hN hv hd hcd) (hi.run B) hs) (hj.run B) hs2) fun σ H Q ⟨G, ρ, r, h⟩ => by
 unfold FL.oix2 at h
 split at h
 ·rename_i ts es
  obtain ⟨a0, vs, fs, hv, l, ha, ro, nd, _⟩ := r.lst es
  refine ⟨.ref a0, hv, lift.next (rel := relD X.K X.mg) (g := fun k ρ => match k with
   | .int k => match L2.atI ts k with
    | some (.lst us) => (fj ρ).bind fun m => match m with
     | .int m => match L2.atI us m with
      | some (.d x) => .ok x
      | _ => .bad
     | _ => .bad
    | _ => .bad
   | _ => .bad) later_D r h fun d y G1 H1 r1 s1 q1 w1 => ?_⟩
  (try dsimp only at w1)
  cases d <;> first | exact w1.elim | skip
  rename_i k
  (try dsimp only at w1)
  cases ek : L2.atI ts k with
  | none => rw [ek] at w1; exact w1.elim
  | some u =>
   rw [ek] at w1
   cases u <;> first | exact w1.elim | skip
   rename_i us
   cases q1
   obtain ⟨j, hj1, hj2⟩ := L2at ek
   obtain ⟨a1, vs1, b1, ws1, gs1, x1, x2, x3, x4, x5, x6, x7, _⟩ := r1.lst2 es hj2
   rw [hv] at x1
   cases x1
   refine ⟨a0, vs1, k, .ref b1, rfl, rfl, SqL.of x2, by unfold L2.atI; rw [x3, hj1]; exact x4, ?_⟩
   refine lift.next (rel := relD X.K X.mg) (g := fun m _ => match m with
     | .int m => match L2.atI us m with
      | some (.d x) => .ok x
      | _ => .bad
     | _ => .bad) later_D r1 w1 fun d y G2 H2 r2 s2 q2 w2 => ?_
   (try dsimp only at w2)
   cases d <;> first | exact w2.elim | skip
   rename_i m
   (try dsimp only at w2)
   cases em : L2.atI us m with
   | none => rw [em] at w2; exact w2.elim
   | some u2 =>
    rw [em] at w2
    cases u2 <;> first | exact w2.elim | skip
    rename_i z
    cases q2
    obtain ⟨j2, hm1, hm2⟩ := L2at em
    obtain ⟨v, f1, fj, f2, ev, _, rj, _⟩ := x7.at hm2
    unfold RO at rj
    exact ⟨b1, ws1, m, v, rfl, rfl, SqL.of (s2.hh _ _ x6), by unfold L2.atI; rw [x7.len, hm1]; exact ev, Wr.ok (rel := relD X.K X.mg) (k := fun _ v _ H' => Q v H') w2 (Stp.refl r2.gh) (R.mono s2.gg rj.2)⟩
 ·exact h.elim⟩
end
end FL
namespace FL
open PySem PySem.Spec PyProof.Rows L2
section
variable {K : PySem.W.Frag} {mg : Str → Option Value} {h : Heap}
theorem fun_ofD {x qual : Str} {st : Stmt} {f : Addr} {fd : FuncData} (F : FunD K x qual (defArgs st) (defBody st) (defScope st) [] [] f fd) : Fun K x qual st f fd := by
 obtain ⟨oc, od, dV, kV, doc, pm, an, cdv, ct, osl, e, lk, hc, hD, _⟩ := F.ex
 rcases hD with ⟨_, rfl⟩ | ⟨z, _⟩
 ·exact ⟨⟨oc, od, kV, doc, pm, an, cdv, ct, osl, e, lk, hc⟩, F.kp⟩
 ·exact absurd rfl z
theorem Dn.ofD {x : Str} {st : Stmt} {ps : List Str} {fd : FuncData} (X : K.In h) (G : h.Ns mainGlobals mg) (F : FunD K x x (defArgs st) (defBody st) (defScope st) [] [] (He.ga K x) fd) (c : (He.Fa.glo x).ok K = true)
  (b : ∀ (kV doc pm : Value) (an : Option Addr) (cdv ct : Value) (us : List Value), us.length = ps.length → bindArgs (PySem.W.fnOf x x (defArgs st) (defBody st) (defScope st) .none kV doc pm an cdv ct) ⟨us, []⟩ = pure (ps.zip us)) : Dn K mg x st ps :=
 ⟨He.ga K x, fd, fun_ofD F, He.glo_ok X G c, F.kp, F.bindsN b⟩
def dD (x : Str) (st : Stmt) : He.DefD := ⟨(x, none), x, x, defArgs st, defBody st, defScope st, [], []⟩
end
end FL
namespace FL
open PySem PySem.Spec PyProof.Rows L2
section
variable {X : Cx} {W : WW} {a b e : Expr} {es : List Expr} {f fa fb fi : En → Res D} {fs : En → Res (List D)} {p p1 p2 p3 pos : Pos}
end
end FL
namespace FL
open PySem PySem.Spec PyProof.Rows L2
structure Rz (K : PySem.W.Frag) (mg : Str → Option Value) (c : Str) : Prop where
 ex : ∃ C, mg c = some (.ref C) ∧ PySem.W.excIn K C He.veBase "ValueError.__new__" = true ∧ PySem.W.keepIn K (.ref C) = true ∧ PySem.W.subIn K (.ref C) (.type "BaseException") = some true ∧ PySem.W.typeIn K (.ref C) = some (.type "type")
structure ExK (K : PySem.W.Frag) (mg : Str → Option Value) (T : List Str) (sub : Str → Str → Bool) : Prop where
 cls : ∀ c ∈ T, ∃ C, mg c = some (.ref C)
 exc : ∀ c ∈ T, ∀ C, mg c = some (.ref C) → L2.ExcC K C
 exm : ∀ c ∈ T, ∀ d ∈ T, ∀ C E, mg c = some (.ref C) → mg d = some (.ref E) → PySem.W.exmOne K (.ref C) (.ref E) = some (sub c d) ∧ PySem.W.kitOne K (.ref C) (.ref E) = some (sub c d)
 ve : ∀ c ∈ T, ∀ C, mg c = some (.ref C) → PySem.W.kitOne K (.ref C) (.type "ValueError") = some true
theorem call_isP {X : Cx} {a C : Addr} {oe : Obj} (hp : (a, oe) ∈ X.pn) (E : L2.ExcC X.K C) (hz : Zc (.ref C) none oe) (hf : ∃ vs, oe.data = .fields vs) : CallR X (.builtin "isinstance") (rIsE X.K C a) := by
 rintro pins s σ H xs us Q I r ⟨c, cv, b, rfl, hcv, e, q⟩
 cases r with
 | cons rx rr =>
  cases rr with
  | cons rt rr =>
   cases rr
   cases rx
   cases hcv _ rt
   obtain ⟨got, _⟩ := I.pin (a, oe) (List.mem_append_left _ hp)
   have J : PySem.W.InstAt s.heap a oe C none := by
    obtain ⟨oc, od, oda, osl⟩ := oe
    obtain ⟨vs, hv⟩ := hf
    obtain ⟨h1, h2⟩ := hz
    dsimp only at h1 h2 hv
    subst h1 h2 hv
    exact ⟨got, rfl, rfl, trivial⟩
   exact PySem.W.kia_one (PySem.W.handS_kitx_exc E.hg E.hk E.hs E.hd E.ha E.hn E.ht E.hm) I.kIn J e (fun z => nomatch z) fun tk => ⟨.bl b, H, I.kept (t' := tk) fun _ _ z => z, rfl, q⟩
structure Cau (X : Cx) (a : Addr) (c : Str) : Prop where
 ex : ∃ oe C, (a, oe) ∈ X.pn ∧ X.mg c = some (.ref C) ∧ L2N.Zn (.ref C) none oe ∧ ∃ vs, oe.data = .fields vs
section
variable {X : Cx} {W : WW} {io : List Nat} {e : Expr} {f : En → Res D} {T : List Str} {sub : Str → Str → Bool} {p p2 pos : Pos}
theorem S1.raise {c m : Str} {j : Nat} {pos' : Pos} (hc : X.calm = true) (tk : L2N.Takes X W.w) (F : Rz X.K X.mg c) (hg : Gl X c := by rfl) (hdb : (c == ("__debug__" : Str)) = false := by decide) :
  S1 X W io (.Raise (some (.Call (.Name c p) [.Constant (.str m) j p2] [] pos)) none pos') (raF c) := ⟨fun B hB => by
 obtain ⟨C, gC, q, kC, s1, s2⟩ := F.ex
 exact PS.mono (L2N.ps_raise hc tk (L2N.pmk_own PySem.F.excBase_ValueError q gC kC (raises_own s1 s2) hg hdb)) fun N σ H ⟨G, ρ, r, h⟩ => h.2 σ G H _ _ r ⟨gC, rfl⟩⟩
end
def gone : Option Nat → Ends → Ends
 | none, N => N
 | some i, N => { nx := fun σ H => N.nx (σ.set i none) H, rt := N.rt, bk := fun σ H => N.bk (σ.set i none) H, ct := fun σ H => N.ct (σ.set i none) H }
def held : Option Nat → Addr → L2.St → L2.St
 | none, _, σ => σ
 | some i, a, σ => σ.set i (some (.ref a))
abbrev Suit : Type := Addr → Value → Option Addr → TS
def wCl (K : PySem.W.Frag) (Wout : WX) (N : Ends) : List (Value × Option Nat × Suit) → WX
 | [] => Wout
 | (c, n, ts) :: l => fun cls d σ H => ∃ b, PySem.W.exmOne K cls c = some b ∧ (b = true → ∀ a, H a = none → ts a cls d (gone n N) (held n a σ) H) ∧ (b = false → wCl K Wout N l cls d σ H)
inductive Hds (X : Cx) : List ExceptHandler → List (Value × Option Nat × Suit) → Prop
 | nil : Hds X [] []
 | one {x : Str} {c : Value} {ts : Suit} {b₀ : Stmt} {suite : List Stmt} {np pos' : Pos} {hds : List ExceptHandler} {l : List (Value × Option Nat × Suit)} (hc : Names X x c)
   (hsu : ∀ (a : Addr) (oe : Obj) (cls : Value) (d : Option Addr) (pn : List (Addr × Obj)), L2N.Zn cls d oe → (∃ vs, oe.data = .fields vs) → PSs (X.suite a ((a, oe) :: pn)) (b₀ :: suite) (ts a cls d)) (r : Hds X hds l) :
   Hds X (.ExceptHandler (some (.Name x np)) none (b₀ :: suite) pos' :: hds) ((c, none, ts) :: l)
 | as {x n : Str} {i : Nat} {c : Value} {ts : Suit} {b₀ : Stmt} {suite : List Stmt} {np pos' : Pos} {hds : List ExceptHandler} {l : List (Value × Option Nat × Suit)} (hN : X.N.Nodup) (hi : X.N[i]? = some n) (hln : X.env.kindOf n = some .local) (hc : Names X x c)
   (hsu : ∀ (a : Addr) (oe : Obj) (cls : Value) (d : Option Addr) (pn : List (Addr × Obj)), L2N.Zn cls d oe → (∃ vs, oe.data = .fields vs) → PSs (X.suite a ((a, oe) :: pn)) (b₀ :: suite) (ts a cls d)) (r : Hds X hds l) :
   Hds X (.ExceptHandler (some (.Name x np)) (some n) (b₀ :: suite) pos' :: hds) ((c, some i, ts) :: l)
section
variable {X : Cx} {pins : List (Addr × Obj)} {σ : L2.St} {H : Hp} {N : Ends} {Wout : WX} {a : Addr} {B : Heap} {cls : Value} {d : Option Addr} {sI s' : Shared} {h3 : Heap}
structure Lndd (X : Cx) (pins : List (Addr × Obj)) (σ : L2.St) (H : Hp) (a : Addr) (B : Heap) (cls : Value) (d : Option Addr) (sI s' : Shared) (h3 : Heap) : Prop where
 ok : X.Ok
 hs : X.stack = X.env :: X.outer
 hf : X.env.frame = some X.env.locals
 J : Inv X pins σ H sI
 nb : ∀ b o, sI.heap.get? b = some o → b ∉ frs X.stack → B.get? b = some o
 up : sI.heap.UpToSlots s'.heap
 up3 : s'.heap.UpToSlots h3
 fl : HandSPX.FlyingZ B (X.env :: X.outer) a (L2N.Zn cls d) h3
 na : H a = none
 os : s'.os = sI.os
 ag : AllBare s'.gens
theorem fly_frs {E : List Env} {Z : Obj → Prop} {oe : Obj} {vs : Array Value} (x : HandSPX.FlyingZ B E a Z h3) (he : h3.get? a = some oe) (hd : oe.data = .fields vs) : a ∉ frs E := fun hm => by
 obtain ⟨_, o, ho, hnf⟩ := x.2.2.1.mem hm
 rw [he] at ho
 cases ho
 exact hnf _ hd
theorem Lndd.suite (L : Lndd X pins σ H a B cls d sI s' h3) {h4 : Heap} (fl4 : HandSPX.FlyingZ B (X.env :: X.outer) a (L2N.Zn cls d) h4) (up4 : h3.UpToSlots h4) : ∃ oe vs, h4.get? a = some oe ∧ L2N.Zn cls d oe ∧ oe.data = .fields vs ∧ Inv (X.suite a ((a, oe) :: (X.pn ++ pins))) [] σ H { s' with heap := h4 } := by
 obtain ⟨oe, vs, he, hz, hd⟩ := fl4.there
 have nfr := fly_frs fl4 he hd
 exact ⟨oe, vs, he, hz, hd, (L.J.landed (s' := { s' with heap := h4 }) L.nb fl4.1 ((L.up.trans L.up3).trans up4) L.os L.ag).suite he hd L.na (fun z => nfr (List.mem_filterMap.mpr ⟨X.env, List.mem_cons_self, by rw [L.hf, z]⟩)) fun hm => by
  obtain ⟨e, he, q⟩ := List.mem_filterMap.mp hm
  exact nfr (List.mem_filterMap.mpr ⟨e, List.mem_cons_of_mem _ he, q⟩)⟩
theorem Lndd.test (L : Lndd X pins σ H a B cls d sI s' h3) {x : Str} {c : Value} {np : Pos} {Q : Value → Shared → Prop} {E : Value → Shared → Prop} (hc : Names X x c) (q : Q c { s' with heap := h3 }) : wpAny (model X.prog X.w) (X.A.mark (some (.ref a))) (eval (.Name x np) X.env) Q E { s' with heap := h3 } := by
 obtain ⟨oe, vs, _, _, _, S⟩ := L.suite L.fl (Heap.UpToSlots.refl _)
 obtain ⟨hg, hdbg, hm | ⟨hm, hv, hnn⟩⟩ := hc
 ·exact ld_glob (X := X.suite a ((a, oe) :: (X.pn ++ pins))) S hg hm q hdbg
 ·exact ld_blt (X := X.suite a ((a, oe) :: (X.pn ++ pins))) S hg hm hv q hnn hdbg
theorem Lndd.none_left (L : Lndd X pins σ H a B cls d sI s' h3) (tk : L2N.Takes X Wout) (w : Wout cls d σ H) : wpAny (model X.prog X.w) X.A (handleBy (.ref a) X.env []) (SP X pins N) X.xe { s' with heap := h3 } := by
 refine wpAny_handleBy_nil ?_
 obtain ⟨_, _, _, oe, vs, T, oT, ts', he, hz, hd, h1, _⟩ := id L.fl
 unfold PySem.passOn
 refine wpAny_bind (wpAny_field he hd h1 ?_)
 rw [if_neg (show ¬ ((Value.ref T == Value.none) = true) from by simp)]
 have fin : wpAny (model X.prog X.w) X.A (setFlight (.ref a) X.env.frame) (fun _ s4 => wpAny (model X.prog X.w) X.A (throw (.ref a) : Sem Flow) (SP X pins N) X.xe s4) X.xe { s' with heap := h3 } := by
  rw [L.hf]
  refine HandSPX.setFlight_upZ L.fl fun h4 hh4 up4 => wpAny_throw (tk _ _ ?_)
  exact ⟨a, B, sI, pins, σ, H, cls, d, rfl, L.J, L.nb, (L.up.trans L.up3).trans up4, .inr (.inr (by rw [L.hs]; exact hh4)), L.na, L.os, L.ag, w⟩
 first
  | exact wpAny_bind (wpAny_pure (wpAny_bind fin))
  | exact wpAny_bind fin
theorem Lndd.go (L : Lndd X pins σ H a B cls d sI s' h3) (tk : L2N.Takes X Wout) : ∀ {hds : List ExceptHandler} {l : List (Value × Option Nat × Suit)}, Hds X hds l → wCl X.K Wout N l cls d σ H → wpAny (model X.prog X.w) X.A (handleBy (.ref a) X.env hds) (SP X pins N) X.xe { s' with heap := h3 } := by
 intro hds l hk
 have kin : X.K.In h3 := (L.J.landed (s' := { s' with heap := h3 }) L.nb L.fl.1 (L.up.trans L.up3) L.os L.ag).kIn
 have LM : ∀ {c : Value} {b : Bool}, PySem.W.exmOne X.K cls c = some b → _ := fun {c b} hb =>
  PySem.W.exm_one (M := model X.prog X.w) kin (show PySem.W.Looks (model X.prog X.w) h3 (typeOf (.ref a)) cls from fun A Q E s k q => by
   obtain ⟨oe, vs, he, hz, hd, _⟩ := L.suite L.fl (Heap.UpToSlots.refl _)
   exact wpAny_typeOf_ref (k _ _ he) (by rw [hz.1]; exact q)) hb
 induction hk with
 | nil => exact fun w => L.none_left tk w
 | one hc hsu r ih =>
  rintro ⟨b, hb1, hyes, hno⟩
  refine wpAny_handleBy_cons (codeAny_handlers_test (L.test hc ((LM hb1).here ?_))) (by intro q; cases q)
  cases b with
  | false => exact ih (hno rfl)
  | true =>
   refine codeAny_handlers_suite (HandSPX.lands_againZ L.fl fun h4 fl4 up4 => ?_)
   obtain ⟨oe, vs, he, hz, hd, S⟩ := L.suite fl4 up4
   refine wpAny_mono ((hsu a oe cls d (X.pn ++ pins) hz ⟨_, hd⟩).run [] _ _ H _ S (hyes rfl a L.na)) (fun f s6 hsp => ?_) (fun _ _ z => False.elim z)
   cases f with
   | ret u =>
    obtain ⟨v6, σ6, H6, S6, r6, q6⟩ := hsp
    exact ⟨_, _, _, S6.unsuite L.ok, r6, q6⟩
   | next => obtain ⟨σ6, H6, S6, q6⟩ := hsp; exact ⟨_, _, S6.unsuite L.ok, q6⟩
   | brk => obtain ⟨σ6, H6, S6, q6⟩ := hsp; exact ⟨_, _, S6.unsuite L.ok, q6⟩
   | cont => obtain ⟨σ6, H6, S6, q6⟩ := hsp; exact ⟨_, _, S6.unsuite L.ok, q6⟩
 | as hN hi hln hc hsu r ih =>
  rintro ⟨b, hb1, hyes, hno⟩
  refine wpAny_handleBy_cons (codeAny_handlers_test (L.test hc ((LM hb1).here ?_))) (by intro q; cases q)
  cases b with
  | false => exact ih (hno rfl)
  | true =>
   refine codeAny_handlers_suite_as (HandSPX.lands_againZ L.fl fun h4 fl4 up4 => ?_)
   obtain ⟨oe, vs, he, hz, hd, S⟩ := L.suite fl4 up4
   refine store_ok (X := X.suite a ((a, oe) :: (X.pn ++ pins))) (v := .ref a) S hN hi (.inl hln) rfl (fun s5 S5 => ?_) (.inr hln)
   refine wpAny_mono ((hsu a oe cls d (X.pn ++ pins) hz ⟨_, hd⟩).run [] s5 _ H _ S5 (hyes rfl a L.na)) (fun f s6 hsp => ?_) (fun _ _ z => False.elim z)
   cases f with
   | ret u =>
    obtain ⟨v6, σ6, H6, S6, r6, q6⟩ := hsp
    exact gone_ok (S6.unsuite L.ok) hN hi hln fun s7 J7 => ⟨_, _, _, J7, r6, q6⟩
   | next => obtain ⟨σ6, H6, S6, q6⟩ := hsp; exact gone_ok (S6.unsuite L.ok) hN hi hln fun s7 J7 => ⟨_, _, J7, q6⟩
   | brk => obtain ⟨σ6, H6, S6, q6⟩ := hsp; exact gone_ok (S6.unsuite L.ok) hN hi hln fun s7 J7 => ⟨_, _, J7, q6⟩
   | cont => obtain ⟨σ6, H6, S6, q6⟩ := hsp; exact gone_ok (S6.unsuite L.ok) hN hi hln fun s7 J7 => ⟨_, _, J7, q6⟩
end
theorem ps_tryC {X : Cx} {body : List Stmt} {h₀ : ExceptHandler} {hds : List ExceptHandler} {l : List (Value × Option Nat × Suit)} {pos : Pos} {tb : WX → TS} {Wout : WX} (hs : X.stack = X.env :: X.outer) (hf : X.env.frame = some X.env.locals) (tk : L2N.Takes X Wout)
  (hb : ∀ (W : WX) (pn : List (Addr × Obj)) (xe : Value → Shared → Prop), L2N.Takes (X.tr pn xe) W → PassesOwn (model X.prog X.w) X.A X.env xe → PSs (X.tr pn xe) body (tb W))
  (hh : Hds X (h₀ :: hds) l) : PS X (.Try body (h₀ :: hds) [] [] pos) (fun N σ H => tb (wCl X.K Wout N l) N σ H) := by
 refine ⟨fun pins s σ H N I h => ?_⟩
 refine wpAny_Try_except (wpAny_mono ((hb (wCl X.K Wout N l) (X.pn ++ pins) (fun e s₁ => wpAny (model X.prog X.w) X.A (noteFrame e X.env) (fun _ s₂ => wpAny (model X.prog X.w) X.A (setFlight e none) (fun _ s₃ =>
  wpAny (model X.prog X.w) X.A (handleBy e X.env (h₀ :: hds)) (SP X pins N) X.xe s₃) X.xe s₂) X.xe s₁) ?_ PassesOwn.looking).run [] s σ H N (I.toTry _) h) (fun f s1 hsp => ?_) fun e s1 he => he)
 ·rintro u s' ⟨a, B, sI, pins', σ', H', cls, d, rfl, J', nb, up, sky, na, os, ag, w⟩
  refine L2N.Sky.land L2N.Zn.steady (by rw [I.ok.frames, hs]) hf (by rw [← hs]; exact sky) fun h3 fl3 up3 => ?_
  exact Lndd.go ⟨I.ok, hs, hf, J'.ofTry I.ok, nb, up, up3, fl3, na, os, ag⟩ tk hh w
 ·cases f with
  | ret u =>
   obtain ⟨v, σ', H', J', r, q⟩ := hsp
   exact ⟨v, σ', H', J'.ofTry I.ok, r, q⟩
  | next => obtain ⟨σ', H', J', q⟩ := hsp; exact wpAny_execs_nil ⟨σ', H', J'.ofTry I.ok, q⟩
  | brk => obtain ⟨σ', H', J', q⟩ := hsp; exact ⟨σ', H', J'.ofTry I.ok, q⟩
  | cont => obtain ⟨σ', H', J', q⟩ := hsp; exact ⟨σ', H', J'.ofTry I.ok, q⟩
open Classical in
noncomputable def allA (f : Addr → Flw) : Flw := if h : ∃ r, ∀ a, f a = r then h.choose else .bad
theorem allA_of {f : Addr → Flw} {r : Flw} (h : ∀ a, f a = r) : allA f = r := by
 unfold allA
 rw [dif_pos ⟨r, h⟩]
 have hx : ∃ r, ∀ a, f a = r := ⟨r, h⟩
 exact (hx.choose_spec 0).symm.trans (h 0)
def unE : Option Nat → Flw → Flw
 | _, .ex _ _ => .bad
 | some i, .nx ρ => .nx (ρ.set i none)
 | some i, .bk ρ => .bk (ρ.set i none)
 | some i, .ct ρ => .ct (ρ.set i none)
 | _, .rt t ρ => .rt t (List.replicate ρ.length none)
 | _, r => r
def setE : Option Nat → Addr → En → En
 | none, _, ρ => ρ
 | some i, a, ρ => ρ.set i (some (.d (.exn a)))
structure Clz where
 c : Str
 n : Option Nat
 f : Addr → Str → En → Flw
noncomputable def hdl (sub : Str → Str → Bool) : List Clz → Exn → En → Flw
 | [], x, ρ => .ex x ρ
 | k :: ks, x, ρ => if sub x.c k.c = true then allA (fun a => unE k.n (k.f a x.c (setE k.n a ρ))) else hdl sub ks x ρ
theorem Rep.gone {K : PySem.W.Frag} {mg : Str → Option Value} {B : Bs} {G H : Hp} {σ : L2.St} {ρ : En} (r : Rep K mg B G H σ ρ) {i : Nat} (hi : ∀ q ∈ B.io, q.1 ≠ i) : Rep K mg B G H (σ.set i none) (ρ.set i none) := by
 obtain ⟨F, f⟩ := r.sl
 refine ⟨⟨r.g.gh, r.g.oh, r.g.g0, r.g.og, fun q hq => ?_⟩, by rw [List.length_set, List.length_set]; exact r.len, F, fun j u e => ?_, f.nd, f.at_, f.dj⟩
 ·rw [List.getElem?_set_ne (fun z => hi q hq z.symm)]; exact r.g.io q hq
 ·rcases get_set e with ⟨_, _, e2⟩ | ⟨ne, e⟩
  ·cases e2
  ·obtain ⟨v, a, b⟩ := f.rep j u e
   exact ⟨v, by rw [List.getElem?_set_ne ne]; exact a, b⟩
section
variable {X : Cx} {W : WW} {io : List Nat} {T : List Str} {sub : Str → Str → Bool} {F : En → Flw}
theorem _root_.FL.RepV.forget {K : PySem.W.Frag} {mg : Str → Option Value} {B : Bs} {G H : Hp} {σ : L2.St} {ρ : En} {t : OT} {v : V} (r : RepV K mg B G H σ ρ t v) (i : Nat) : RepV K mg B G H σ (ρ.set i none) t v := by
 obtain ⟨F, fv, f, h⟩ := r.sl
 exact ⟨r.g, by rw [List.length_set]; exact r.len, F, fv, f.forget i, h⟩
theorem _root_.FL.RepV.void {K : PySem.W.Frag} {mg : Str → Option Value} {B : Bs} {G H : Hp} {σ : L2.St} {ρ : En} {t : OT} {v : V} (r : RepV K mg B G H σ ρ t v) : RepV K mg B G H σ (List.replicate ρ.length none) t v := by
 obtain ⟨F, fv, f, h1, h2, h3, h4⟩ := r.sl
 refine ⟨r.g, by rw [List.length_replicate]; exact r.len, fun _ => [], fv, ⟨fun i u e => ?_, fun _ => List.nodup_nil, fun i p hp => absurd hp (by simp), fun i j p _ hp => absurd hp (by simp)⟩, h1, h2, h3, fun i p _ hp => absurd hp (by simp)⟩
 rw [List.getElem?_replicate] at e
 split at e <;> cases e
theorem out_un {B : Bs} {N : Ends} {n : Option Nat} {r : Flw} (hio : ∀ i, n = some i → ∀ q ∈ B.io, q.1 ≠ i) (o : Out X W B N (unE n r)) : Out X W0 B (FL.gone n N) r := by
 cases n with
 | none =>
  cases r with
  | rt t ρ => exact fun v σ G H r => o v σ G H r.void
  | _ => first | exact o | exact o.elim
 | some i =>
  have hi := hio i rfl
  cases r with
  | nx ρ => exact fun σ G H r => o _ G H (r.gone hi)
  | bk ρ => exact fun σ G H r => o _ G H (r.gone hi)
  | ct ρ => exact fun σ G H r => o _ G H (r.gone hi)
  | rt t ρ => exact fun v σ G H r => o v σ G H r.void
  | ex c ρ => exact o.elim
  | bad => exact o
inductive Cls (X : Cx) (io : List Nat) (T : List Str) : List ExceptHandler → List Clz → Prop
 | nil : Cls X io T [] []
 | one {x : Str} {f : Addr → Str → En → Flw} {b₀ : Stmt} {suite : List Stmt} {np pos' : Pos} {hds : List ExceptHandler} {l : List Clz} (hx : x ∈ T) (hg : Gl X x) (hd : (x == ("__debug__" : Str)) = false)
   (hsu : ∀ (a : Addr) (pn : List (Addr × Obj)) (c : Str), c ∈ T → Cau (X.suite a pn) a c → SS (X.suite a pn) W0 io (b₀ :: suite) (f a c)) (r : Cls X io T hds l) : Cls X io T (.ExceptHandler (some (.Name x np)) none (b₀ :: suite) pos' :: hds) (⟨x, none, f⟩ :: l)
 | as {x n : Str} {i : Nat} {f : Addr → Str → En → Flw} {b₀ : Stmt} {suite : List Stmt} {np pos' : Pos} {hds : List ExceptHandler} {l : List Clz} (hx : x ∈ T) (hg : Gl X x) (hd : (x == ("__debug__" : Str)) = false) (hN : X.N.Nodup) (hi : X.N[i]? = some n) (hln : X.env.kindOf n = some .local) (hio : i ∉ io)
   (hsu : ∀ (a : Addr) (pn : List (Addr × Obj)) (c : Str), c ∈ T → Cau (X.suite a pn) a c → SS (X.suite a pn) W0 io (b₀ :: suite) (f a c)) (r : Cls X io T hds l) : Cls X io T (.ExceptHandler (some (.Name x np)) (some n) (b₀ :: suite) pos' :: hds) (⟨x, some i, f⟩ :: l)
def su1 (X : Cx) (T : List Str) (B : Bs) (f : Addr → Str → En → Flw) : Suit := fun a cls d N σ H => ∃ c G ρ, c ∈ T ∧ X.mg c = some cls ∧ d = none ∧ Rep X.K X.mg B G H σ ρ ∧ Out X W0 B N (f a c ρ)
theorem su1_ok {f : Addr → Str → En → Flw} {b₀ : Stmt} {suite : List Stmt} {B : Bs} (k : ExK X.K X.mg T sub) (hB : B.io.map (·.1) = io)
  (hsu : ∀ (a : Addr) (pn : List (Addr × Obj)) (c : Str), c ∈ T → Cau (X.suite a pn) a c → SS (X.suite a pn) W0 io (b₀ :: suite) (f a c)) (a : Addr) (oe : Obj) (cls : Value) (d : Option Addr) (pn : List (Addr × Obj)) (hz : L2N.Zn cls d oe) (hf : ∃ vs, oe.data = .fields vs) :
  PSs (X.suite a ((a, oe) :: pn)) (b₀ :: suite) (su1 X T B f a cls d) := by
 refine ⟨fun pins s σ H N I ⟨c, G, ρ, hc, hm, hd, r, o⟩ => ?_⟩
 subst hd
 obtain ⟨C, hC⟩ := k.cls c hc
 have e : cls = .ref C := Option.some.inj (hm.symm.trans hC)
 subst e
 exact ((hsu a ((a, oe) :: pn) c hc ⟨oe, C, List.mem_cons_self, hm, hz, hf⟩).run B hB).run pins s σ H N I ⟨G, ρ, r, o⟩
theorem allA_out {B : Bs} {N : Ends} {f : Addr → Flw} (o : Out X W B N (allA f)) (a : Addr) : Out X W B N (f a) := by
 unfold allA at o
 split at o
 ·rename_i h
  rw [h.choose_spec a]; exact o
 ·exact o.elim
theorem Cls.hds (k : ExK X.K X.mg T sub) {B : Bs} (hB : B.io.map (·.1) = io) : ∀ {hds : List ExceptHandler} {l : List Clz}, Cls X io T hds l → ∃ l', Hds X hds l' ∧
  ∀ {Wout : WX} {N : Ends} {x : Exn} {ρ : En} {σ : L2.St} {G H : Hp} {cls : Value} {dd : Option Addr}, x.c ∈ T → x.p = none → W.w = Wout → Out X W B N (hdl sub l x ρ) → Rep X.K X.mg B G H σ ρ → RX X.K X.mg G H x cls dd → wCl X.K Wout N l' cls dd σ H := by
 intro hds l h
 have exq : ∀ {x : Exn} {G H : Hp} {cls : Value} {dd : Option Addr}, x.p = none → RX X.K X.mg G H x cls dd → X.mg x.c = some cls ∧ dd = none := fun {x G H cls dd} hp h => ⟨h.1, by
  have h2 := h.2
  rw [hp] at h2
  exact h2⟩
 induction h with
 | nil => exact ⟨[], .nil, fun {Wout N x ρ σ G H cls dd} _ _ hw o r q => by subst hw; exact o.2 σ G H cls dd r q⟩
 | @one x f b₀ suite np pos' hds l hx hg hd hsu r ih =>
  obtain ⟨l', h1, h2⟩ := ih
  obtain ⟨E, hE⟩ := k.cls x hx
  refine ⟨(.ref E, none, su1 X T B f) :: l', .one ⟨hg, hd, .inl hE⟩ (fun a oe cls d pn hz hf => su1_ok k hB hsu a oe cls d pn hz hf) h1, fun {Wout N y ρ σ G H cls dd} hc hp hw o r q => ?_⟩
  obtain ⟨q1, q2⟩ := exq hp q
  obtain ⟨C, hC⟩ := k.cls y.c hc
  have e : cls = .ref C := Option.some.inj (q1.symm.trans hC)
  refine ⟨sub y.c x, by rw [e]; exact (k.exm y.c hc x hx C E hC hE).1, fun hy a na => ?_, fun hn => ?_⟩
  ·unfold hdl at o
   rw [if_pos hy] at o
   refine ⟨y.c, G, ρ, hc, q1, q2, r, out_un (W := W) (fun i z => nomatch z) (allA_out o a)⟩
  ·unfold hdl at o
   rw [if_neg (by rw [hn]; exact Bool.false_ne_true)] at o
   exact h2 hc hp hw o r q
 | @as x n i f b₀ suite np pos' hds l hx hg hd hN hi hln hio hsu r ih =>
  obtain ⟨l', h1, h2⟩ := ih
  obtain ⟨E, hE⟩ := k.cls x hx
  refine ⟨(.ref E, some i, su1 X T B f) :: l', .as hN hi hln ⟨hg, hd, .inl hE⟩ (fun a oe cls d pn hz hf => su1_ok k hB hsu a oe cls d pn hz hf) h1, fun {Wout N y ρ σ G H cls dd} hc hp hw o r q => ?_⟩
  obtain ⟨q1, q2⟩ := exq hp q
  obtain ⟨C, hC⟩ := k.cls y.c hc
  have e : cls = .ref C := Option.some.inj (q1.symm.trans hC)
  have hne := io_ne hB hio
  refine ⟨sub y.c x, by rw [e]; exact (k.exm y.c hc x hx C E hC hE).1, fun hy a na => ?_, fun hn => ?_⟩
  ·unfold hdl at o
   rw [if_pos hy] at o
   exact ⟨y.c, G, _, hc, q1, q2, (r.val (d := .exn a) rfl).set hne, out_un (W := W) (fun j z => by cases z; exact hne) (allA_out o a)⟩
  ·unfold hdl at o
   rw [if_neg (by rw [hn]; exact Bool.false_ne_true)] at o
   exact h2 hc hp hw o r q
theorem takesN0 : L2N.Takes X W0.w := fun _ _ ⟨_, _, _, _, _, _, _, _, _, _, _, _, _, _, _, _, z⟩ => z.elim
end
end FL
namespace FL
open PySem PySem.Spec PyProof.Rows L2 He
section
variable {K : PySem.W.Frag} {mg : Str → Option Value}
def cauB (K : PySem.W.Frag) (C : Addr) : Bool :=
 eqO (PySem.W.findIn K (.ref C) "__getattribute__") (some (some (.builtin "BaseException.__getattribute__"))) &&
 (eqO (PySem.W.findIn K (.ref C) "__getattr__") (some none) &&
 (decide (PySem.W.subIn K (.ref C) (.type "BaseException") = some true) &&
 (PySem.W.hasDictIn K C &&
 (eqO (PySem.W.findIn K (.ref C) "__class__") (some (some (.builtin "object.__class__"))) &&
 (eqO (PySem.W.specialIn K (.builtin "object.__class__") "__get__") (some (some (.builtin "getset_descriptor.__get__"))) &&
 (decide (PySem.W.takesIn K (.builtin "object.__class__") = some true) &&
 decide (PySem.W.mroIn K C (.type "object") = some true)))))))
theorem cauB_ok {C : Addr} (h : cauB K C = true) : L2.ExcC K C := by
 unfold cauB at h
 simp only [Bool.and_eq_true] at h
 obtain ⟨h1, h2, h3, h4, h5, h6, h7, h8⟩ := h
 exact ⟨eqO_ok h1, eqO_ok h2, of_decide_eq_true h3, h4, eqO_ok h5, eqO_ok h6, of_decide_eq_true h7, of_decide_eq_true h8⟩
def exkB (K : PySem.W.Frag) (T : List Str) (sub : Str → Str → Bool) : Bool := T.all fun c => (Fa.glo c).ok K && (cauB K (ga K c) && (decide (PySem.W.kitOne K (.ref (ga K c)) (.type "ValueError") = some true) &&
 T.all fun d => decide (PySem.W.exmOne K (.ref (ga K c)) (.ref (ga K d)) = some (sub c d)) && decide (PySem.W.kitOne K (.ref (ga K c)) (.ref (ga K d)) = some (sub c d))))
theorem exkB_ok {h : Heap} {T : List Str} {sub : Str → Str → Bool} (X : K.In h) (G : h.Ns mainGlobals mg) (q : exkB K T sub = true) : ExK K mg T sub := by
 have q1 := List.all_eq_true.mp q
 have g : ∀ c ∈ T, mg c = some (.ref (ga K c)) := fun c hc => glo_ok X G (ba (q1 c hc)).1
 refine ⟨fun c hc => ⟨_, g c hc⟩, fun c hc C hC => ?_, fun c hc d hd C E hC hE => ?_, fun c hc C hC => ?_⟩
 ·rw [g c hc] at hC; cases hC
  exact cauB_ok (ba (ba (q1 c hc)).2).1
 ·rw [g c hc] at hC; cases hC
  rw [g d hd] at hE; cases hE
  have q2 := ba (List.all_eq_true.mp (ba (ba (ba (q1 c hc)).2).2).2 d hd)
  exact ⟨of_decide_eq_true q2.1, of_decide_eq_true q2.2⟩
 ·rw [g c hc] at hC; cases hC
  exact of_decide_eq_true (ba (ba (ba (q1 c hc)).2).2).1
theorem rz_ok {h : Heap} {x : Str} (X : K.In h) (G : h.Ns mainGlobals mg) (g : (Fa.glo x).ok K = true) (c : (Fa.exc x).ok K = true) : Rz K mg x := by
 obtain ⟨h1, h2, h3, h4⟩ := exc_ok c
 exact ⟨_, glo_ok X G g, h1, h2, h3, h4⟩
def obsF (tt : PySem.W.Frag → Bool) (fn : List DefD) (K : PySem.W.Frag) : AlD := (tt K && fn.all fun d => d.ok K, fn.map fun d => fnW K d.at_)
def SaysF (tt : PySem.W.Frag → Bool) (fn : List DefD) (K : PySem.W.Frag) : Prop := obsF tt fn K = valD fn
def obsFG (n : Nat) (tt : PySem.W.Frag → Bool) (fn : List DefD) (g : Addr → Option Obj) : AlD := obsF tt fn (frG g (asD g n))
def hookF (n : Nat) (tt : PySem.W.Frag → Bool) (fn : List DefD) : PySem.W.Hook where
 α := AlD
 obs := fun s => obsFG n tt fn s.heap.get?
 val := fun _ => valD fn
 says := fun _ h => ∃ K : PySem.W.Frag, K.In h ∧ SaysF tt fn K
 of := fun _ _ e => ⟨_, frG_in, e⟩
 keeps := fun _ _ _ ⟨K, hK, c⟩ k => ⟨K, PySem.W.Frag.In.keeps hK k, c⟩
theorem obsFG_eq {n : Nat} {tt : PySem.W.Frag → Bool} {fn : List DefD} {g : Addr → Option Obj} {s : Shared} (h : ∀ a, g a = s.heap.get? a) : obsFG n tt fn g = (hookF n tt fn).obs s := by
 have e : g = s.heap.get? := funext h
 rw [e] <;> rfl
variable {tt : PySem.W.Frag → Bool} {fn : List DefD}
theorem SaysF.tests (c : SaysF tt fn K) : tt K = true := (ba (show (tt K && fn.all fun d => d.ok K) = true from congrArg (fun z : AlD => z.1) c)).1
theorem SaysF.def_ (c : SaysF tt fn K) (i : Nat) {d : DefD} (h : fn[i]? = some d := by rfl) : ∃ fd, FunD K d.name d.qual d.params d.body d.scope (d.dvs K) (d.kws K) (fAd K d.at_) fd := by
 have c2 := (ba (show (tt K && fn.all fun d => d.ok K) = true from congrArg (fun z : AlD => z.1) c)).2
 have e : fn.map (fun d => fnW K d.at_) = fn.map DefD.val := congrArg (fun z : AlD => z.2) c
 have e2 : (fn.map fun d => fnW K d.at_)[i]? = (fn.map DefD.val)[i]? := by rw [e]
 rw [List.getElem?_map, List.getElem?_map, h] at e2
 exact DefD.funD (Option.some.inj e2) (List.all_eq_true.mp c2 d (List.mem_of_getElem? h))
def ttF (fa : List Fa) (T : List Str) (sub : Str → Str → Bool) (K : PySem.W.Frag) : Bool := (fa.all fun f => f.ok K) && exkB K T sub
theorem ttF_fact {fa : List Fa} {T : List Str} {sub : Str → Str → Bool} (h : ttF fa T sub K = true) (i : Nat) {f : Fa} (q : fa[i]? = some f := by rfl) : f.ok K = true := List.all_eq_true.mp (ba h).1 f (List.mem_of_getElem? q)
theorem ttF_exk {fa : List Fa} {T : List Str} {sub : Str → Str → Bool} (h : ttF fa T sub K = true) : exkB K T sub = true := (ba h).2
end
end FL
namespace FL
open PySem PySem.Spec PyProof.Rows L2
def relS (scope sc : Scope) : Scope := { scope with names := scope.names.map fun (n, k) => if (k == .free && sc.kind == .function && sc.names.lookup n == some .cell) then (n, .cell) else (n, k) }
theorem blk_in {N : List Str} {sc0 scope scope2 : Scope} {own : List (Str × Nat)} {cl : List (Str × Addr)} {C : Addr} {env : Env} (he : env.scope = sc0) (h : blkC N (relS scope sc0) scope2 own = true) : BlkOk N (compEnvC scope cl C env).scope scope2 own := by
 subst he
 exact blkOk_by h
mutual
def flatT : OT → Bool
 | .d x => flat x
 | .lst ts => flatTs ts
 | .tup ts => flatTs ts
 | .dK _ ts => flatTs ts
 | .dT _ ts => flatTs ts
 | .lk _ _ => false
 | .ins _ _ ts => flatTs ts
def flatTs : List OT → Bool
 | [] => true
 | t :: ts => flatT t && flatTs ts
end
section
variable {K : PySem.W.Frag} {mg : Str → Option Value} {G G' H : Hp}
mutual
theorem RO.flat : ∀ {t : OT} {v : V} {fp : List Addr}, flatT t = true → RO K mg G H t v fp → RO K mg G' H t v fp
 | .d x, _, _, f, ⟨e, h⟩ => ⟨e, R.flat (by simpa [flatT] using f) h⟩
 | .lst ts, _, _, f, ⟨a, vs, fs, e, e2, l, h, r⟩ => ⟨a, vs, fs, e, e2, l, h, ROs.flat (by simpa [flatT] using f) r⟩
 | .tup ts, _, _, f, ⟨a, vs, fs, e, e2, l, h, r⟩ => ⟨a, vs, fs, e, e2, l, h, ROs.flat (by simpa [flatT] using f) r⟩
 | .dK _ ts, _, _, f, ⟨a, vs, fs, e, e2, l, h, r⟩ => ⟨a, vs, fs, e, e2, l, h, ROs.flat (by simpa [flatT] using f) r⟩
 | .dT _ ts, _, _, f, ⟨a, vs, fs, e, e2, l, h, r⟩ => ⟨a, vs, fs, e, e2, l, h, ROs.flat (by simpa [flatT] using f) r⟩
 | .lk _ ts, _, _, f, _ => by simp [flatT] at f
 | .ins _ _ ts, _, _, f, ⟨a, ca, dx, vs, fs, e, c, e2, l, h, r⟩ => ⟨a, ca, dx, vs, fs, e, c, e2, l, h, ROs.flat (by simpa [flatT] using f) r⟩
theorem ROs.flat : ∀ {ts : List OT} {vs : List V} {fp : List Addr}, flatTs ts = true → ROs K mg G H ts vs fp → ROs K mg G' H ts vs fp
 | [], _, _, _, h => h
 | t :: ts, _, _, f, ⟨v, r, f1, f2, e, e2, h, q⟩ => by
  simp only [flatTs, Bool.and_eq_true] at f
  exact ⟨v, r, f1, f2, e, e2, RO.flat f.1 h, ROs.flat f.2 q⟩
end
end
def borO (f : En → Res OT) (ρ : En) : Res OT := match f (frz ρ) with
 | .ok t => if (flatT t || (immT t && noE ρ)) = true then .ok t else .bad
 | .ex x => match x.p with
  | none => .ex x
  | some _ => .bad
 | .bad => .bad
section
variable {X : Cx} {W : WW} {io : List Nat} {a b e e1 e2 e3 : Expr} {fo f1 f2 f3 : En → Res OT} {pos px py pz pt pt2 : Pos} {x y z : Str}
theorem EO.bor (h : EO X W e fo) : EO X W e (borO fo) := ⟨fun B => PE.mono (h.run B) fun σ H Q ⟨G, ρ, r, h⟩ => by
 obtain ⟨G1, g1, n1, r1⟩ := r.fzAll'
 refine ⟨G1, frz ρ, r1, ?_⟩
 unfold FL.borO at h
 cases e1 : fo (frz ρ) with
 | ok t =>
  rw [e1] at h
  dsimp only at h
  split at h
  ·rename_i ft
   rintro v G' H' s ⟨fp, q1, q2, q3⟩
   rw [Bool.or_eq_true, Bool.and_eq_true] at ft
   refine h v _ H' (bor_stp r.gh g1 s) ⟨fp, ft.elim (fun ft => RO.flat ft q1) fun ft => RO.imm (bor_tup s) ft.1 q1, q2, fun p hp => ⟨(q3 p hp).1, ?_⟩⟩
   refine (q3 p hp).2.imp (fun z => ?_) id
   unfold borG; rw [(q3 p hp).1]
   exact z
  ·exact h.elim
 | ex c =>
  rw [e1] at h
  dsimp only at h
  split at h
  ·rename_i ep
   refine ⟨h.1, fun G' H' cls dd s q => h.2 _ H' cls dd (bor_stp r.gh g1 s) ⟨q.1, ?_⟩⟩
   have q2 := q.2
   rw [ep] at q2 ⊢
   exact q2
  ·exact h.elim
 | bad => rw [e1] at h; exact h⟩
def parO3 (i j l : Nat) (fa fb fc : En → Res OT) (ρ : En) : Flw := bindF (fa ρ) ρ fun t => bindF (fb ρ) ρ fun u => bindF (fc ρ) ρ fun w => .nx (((ρ.set i (some t)).set j (some u)).set l (some w))
theorem S1.par3 (i j l : Nat) {kt k2} (ha : EO X W e1 f1) (hb : EO X W e2 f2) (hd : EO X W e3 f3) (hN : X.N.Nodup) (hc : X.calm = true := by rfl) (hij : i ≠ j := by decide) (hil : i ≠ l := by decide) (hjl : j ≠ l := by decide) (hio : i ∉ io := by decide) (hio2 : j ∉ io := by decide) (hio3 : l ∉ io := by decide)
  (hi : X.N[i]? = some x := by rfl) (hj : X.N[j]? = some y := by rfl) (hl : X.N[l]? = some z := by rfl)
  (hx : X.env.scope.names.lookup x = some .local := by rfl) (hy : X.env.scope.names.lookup y = some .local := by rfl) (hz : X.env.scope.names.lookup z = some .local := by rfl)
  (hw : swappedStores [.Tuple [.Name x px, .Name y py, .Name z pz] kt pt] (.Tuple [e1, e2, e3] k2 pt2) X.env = pure (some [x, y, z]) := by rfl)
  (hs : swapsWithSole [.Tuple [.Name x px, .Name y py, .Name z pz] kt pt] (.Tuple [e1, e2, e3] k2 pt2) pos.line X.env = pure false := by rfl)
  (s1 : starEach [e1, e2, e3] X.env = (false, eval e1 X.env) :: starEach [e2, e3] X.env := by rfl) (s2 : starEach [e2, e3] X.env = (false, eval e2 X.env) :: starEach [e3] X.env := by rfl) (s3 : starEach [e3] X.env = (false, eval e3 X.env) :: starEach [] X.env := by rfl) :
  S1 X W io (.Assign [.Tuple [.Name x px, .Name y py, .Name z pz] kt pt] (.Tuple [e1, e2, e3] k2 pt2) pos) (parO3 i j l f1 f2 f3) := ⟨fun B hB =>
 PS.mono (ps_par3 hc hN hi hj hl hij hil hjl hx hy hz (pa_cons (ha.run B) (pa_cons (hb.run B) (pa_cons (hd.run B) pa_nil s3) s2) s1) hw hs) fun N σ H ⟨G, ρ, r, h⟩ =>
  lift.of r h fun t v G1 H1 r1 t1 ⟨fp, q1, q2, q3⟩ o => lift.of r1 o fun u w G2 H2 r2 t2 ⟨fp2, p1, p2, p3⟩ o2 => lift.of r2 o2 fun k m G3 H3 r3 t3 ⟨fp3, m1, m2, m3⟩ o3 =>
   ⟨v, w, m, rfl, o3 _ _ _ ((((((r.fresh t1 q1 q2 q3).set (io_ne hB hio)).fresh t2 p1 p2 p3).set (io_ne hB hio2)).fresh t3 m1 m2 m3).set (io_ne hB hio3))⟩⟩
end
end FL
namespace FL
open PySem PySem.Spec PyProof.Rows L2
section
variable {X : Cx} {W : WW} {io : List Nat} {a b e : Expr} {fa fb : En → Res D} {pos p2 : Pos}
def rO (X : Cx) (g : D → D → Option OT) : V → V → Hp → VK → Prop := fun x y H Q => ∃ G d e c, Same G H ∧ R X.K X.mg G d x ∧ R X.K X.mg G e y ∧ g d e = some c ∧ ∀ v G' H', Stp G H G' H' → relO X.K X.mg H G' H' c v → Q v H'
def op2O (g : D → D → Option OT) (fa fb : En → Res D) (ρ : En) : Res OT := (fa ρ).bind fun x => (fb ρ).bind fun y => ofO (g x y)
theorem binO_next {g : D → D → Option OT} {B : Bs} {σ : L2.St} {H : Hp} {Q : VK} (h : lift X W (relO X.K X.mg) B (op2O g fa fb) σ H Q) :
  lift X W (relD X.K X.mg) B fa σ H fun x H1 => lift X W (relD X.K X.mg) B fb σ H1 fun y H2 => rO X g x y H2 Q := by
 obtain ⟨G, ρ, r, h⟩ := h
 refine lift.next (rel := relD X.K X.mg) (g := fun x ρ => (fb ρ).bind fun y => ofO (g x y)) later_O r h fun d x G1 H1 r1 s1 q1 w1 => ?_
 refine lift.next (rel := relD X.K X.mg) (g := fun y _ => ofO (g d y)) later_O r1 w1 fun e y G2 H2 r2 s2 q2 w2 => ?_
 cases hg : g d e with
 | none => rw [hg] at w2; exact w2.elim
 | some c =>
  rw [hg] at w2
  exact ⟨G2, d, e, c, r2.gh, R.mono s2.gg q1, q2, hg, w2⟩
theorem EO.bin {op : Operator} {g : D → D → Option OT} (ho : OpR X (binaryOp op) (rO X g)) (ha : EF X W a fa) (hb : EF X W b fb) : EO X W (.BinOp a op b pos) (op2O g fa fb) := ⟨fun B => PE.mono (pe_op ho (ha.run B) (hb.run B)) fun σ H Q h => binO_next h⟩
def addO : D → D → Option OT
 | .lst a, .lst b => if a.length + b.length ≤ 16777216 then some (.lst ((a ++ b).map .d)) else none
 | _, _ => none
theorem addO_ok : OpR X (binaryOp .Add) (rO X addO) := by
 rintro pins s σ H x y v u Q I rx ry ⟨G, d, e, c, gh, r1, r2, hg, k⟩
 unfold addO at hg
 split at hg
 ·split at hg
  ·rename_i hl; cases hg
   obtain ⟨p, vs, rfl, _, e1, q1⟩ := r1.lst
   obtain ⟨p2, us, rfl, _, e2, q2⟩ := r2.lst
   refine op_cat pins s σ H _ _ v u Q I rx ry ⟨p, p2, vs, us, rfl, rfl, gh _ _ e1, gh _ _ e2, by rw [q1.len, q2.len]; exact sz_le hl, fun q hq => ?_⟩
   exact k _ _ _ (Stp.own gh hq) (relO.newL gh hq (by rw [List.length_append]; exact sz_le hl) (q1.append q2))
  ·cases hg
 ·cases hg
def slO (d : D) (lo hi : Option Int) : Option OT := match d with
 | .lst xs => some (.lst ((cutL xs lo hi).map .d))
 | _ => none
def sliO (fa : En → Res D) (fl fh : En → Res (Option Int)) (ρ : En) : Res OT := (fa ρ).bind fun d => (fl ρ).bind fun lo => (fh ρ).bind fun hi => ofO (slO d lo hi)
theorem slO_ok : SlR X (fun x lo hi H Q => ∃ G d c, Same G H ∧ R X.K X.mg G d x ∧ slO d lo hi = some c ∧ ∀ v G' H', Stp G H G' H' → relO X.K X.mg H G' H' c v → Q v H') := by
 intro pins s σ H x v vl vu lo hi sl Q I rx hs pl pu ⟨G, d, c, gh, r, hg, k⟩
 refine sl_list pins s σ H x v vl vu lo hi sl Q I rx hs pl pu ?_
 unfold slO at hg
 split at hg
 ·cases hg
  obtain ⟨p, vs, rfl, l, e1, q1⟩ := r.lst
  exact ⟨p, vs, rfl, SqL.of (gh _ _ e1), fun q hq => k _ _ _ (Stp.own gh hq) (relO.newL gh hq (Nat.le_trans (cutL_length _ _ _) l) q1.cut)⟩
 ·cases hg
theorem EO.sli {lo hi : Option Expr} {fl fh : En → Res (Option Int)} (ha : EF X W a fa) (hl : EP' X W lo fl) (hh : EP' X W hi fh) : EO X W (.Subscript a (.Slice lo hi none p2) pos) (sliO fa fl fh) := ⟨fun B => PE.mono (pe_slice slO_ok (ha.run B) (hl.run B) (hh.run B)) fun σ H Q ⟨G, ρ, r, h⟩ =>
 lift.next (rel := relD X.K X.mg) (g := fun d ρ => (fl ρ).bind fun lo => (fh ρ).bind fun hi => ofO (slO d lo hi)) later_O r h fun d x G1 H1 r1 s1 q1 w1 =>
  lift.next (rel := fun _ _ _ a b => b = a) (g := fun lo ρ => (fh ρ).bind fun hi => ofO (slO d lo hi)) later_O r1 w1 fun lo lo' G2 H2 r2 s2 q2 w2 =>
   lift.next (rel := fun _ _ _ a b => b = a) (g := fun hi _ => ofO (slO d lo hi)) later_O r2 w2 fun hi hi' G3 H3 r3 s3 q3 w3 => by
    cases q2; cases q3
    cases hg : slO d lo hi with
    | none => rw [hg] at w3; exact w3.elim
    | some c => rw [hg] at w3; exact ⟨G3, d, c, r3.gh, R.mono (s2.gg.trans s3.gg) q1, hg, w3⟩⟩
end
end FL
namespace FL
open PySem PySem.Spec PyProof.Rows L2
section
variable {X : Cx} {pins : List (Addr × Obj)} {σ : L2.St} {H G : Hp} {s : Shared}
end
end FL
namespace FL
open PySem PySem.Spec PyProof.Rows L2
section
variable {X : Cx}
end
end FL
namespace FL
open PySem PySem.Spec PyProof.Rows L2
mutual
theorem py_inj : ∀ (n : Nat) (d e : D), plain n d = true → plain n e = true → py d = py e → d = e
 | n, .lst xs, e, p, q, h => by
  cases e <;> first | (simp [plain] at q; done) | (simp [py] at h; done) | skip
  simp only [py, PyData.list.injEq] at h
  rw [pys_inj n xs _ (by simpa [plain] using p) (by simpa [plain] using q) h]
 | n, .tup xs, e, p, q, h => by
  cases e <;> first | (simp [plain] at q; done) | (simp [py] at h; done) | skip
  simp only [py, PyData.tuple.injEq] at h
  rw [pys_inj n xs _ (by simpa [plain] using p) (by simpa [plain] using q) h]
 | _, .non, e, p, q, h => by cases e <;> first | rfl | (simp [plain] at q; done) | (simp [py] at h; done)
 | _, .bl _, e, p, q, h => by cases e <;> first | (simp [plain] at q; done) | (simp [py] at h; done) | (simp only [py, PyData.bool.injEq] at h; rw [h])
 | _, .int _, e, p, q, h => by cases e <;> first | (simp [plain] at q; done) | (simp [py] at h; done) | (simp only [py, PyData.int.injEq] at h; rw [h])
 | _, .str _, e, p, q, h => by cases e <;> first | (simp [plain] at q; done) | (simp [py] at h; done) | (simp only [py, PyData.str.injEq] at h; rw [h])
 | _, .dK _ _, _, p, _, _ => by simp [plain] at p
 | _, .dT _ _, _, p, _, _ => by simp [plain] at p
 | _, .ins _ _ _, _, p, _, _ => by simp [plain] at p
 | _, .scr _, _, p, _, _ => by simp [plain] at p
 | _, .exn _, _, p, _, _ => by simp [plain] at p
 | _, .exq _ _ _, _, p, _, _ => by simp [plain] at p
theorem pys_inj : ∀ (n : Nat) (ds es : List D), plains n ds = true → plains n es = true → pys ds = pys es → ds = es
 | 0, _, _, p, _, _ => by simp [plains] at p
 | n + 1, [], es, p, q, h => by
  cases es with
  | nil => rfl
  | cons _ _ => simp [pys] at h
 | n + 1, d :: ds, [], p, q, h => by simp [pys] at h
 | n + 1, d :: ds, e :: es, p, q, h => by
  simp only [plains, Bool.and_eq_true] at p q
  simp only [pys, List.cons.injEq] at h
  rw [py_inj n d e p.1 q.1 h.1, pys_inj (n + 1) ds es p.2 q.2 h.2]
end
def noNon : D → Bool
 | .non => false
 | _ => true
section
variable {X : Cx} {W : WW} {pins : List (Addr × Obj)} {σ : L2.St} {H G : Hp} {s : Shared}
variable {a b : Expr} {fa fb : En → Res D} {p pos kpos : Pos}
end
end FL
namespace FL
open PySem PySem.Spec PyProof.Rows L2
section
variable {X : Cx} {W : WW} {a b e o : Expr} {es : List Expr} {f : En → Res D} {fs : En → Res (List D)} {apos cpos pos : Pos} {T name id : String} {g : List D → Option D} {x : Str} {p : Pos}
def tyD : String → D → Bool
 | "list", .lst _ => true
 | "list", .scr _ => true
 | "str", .str _ => true
 | _, _ => false
theorem tyD_ok {K : PySem.W.Frag} {mg : Str → Option Value} {G H : Hp} {T : String} {d : D} {v : V} (gh : Same G H) (h : tyD T d = true) (r : R K mg G d v) : tyV K T v H := by
 unfold tyD at h
 split at h
 ·obtain ⟨q, vs, rfl, _, e1, q1⟩ := r.lst
  exact .inl ⟨rfl, vs, SqL.of (gh _ _ e1)⟩
 ·obtain ⟨q, rfl, h⟩ := r
  exact .inl ⟨rfl, _, gh.seq h⟩
 ·obtain ⟨rfl, _, _⟩ := r
  rfl
 ·cases h
def MtD (X : Cx) (id : String) (g : List D → Option D) : Prop := MtR X id fun x xs H Q => ∃ G d ds c, Same G H ∧ R X.K X.mg G d x ∧ Rs X.K X.mg G ds xs ∧ g (d :: ds) = some c ∧ ∀ v G' H', Stp G H G' H' → R X.K X.mg G' c v → Q v H'
def met (T : String) (g : List D → Option D) (f : En → Res D) (fs : En → Res (List D)) (ρ : En) : Res D := (f ρ).bind fun d => if tyD T d = true then (fs ρ).bind fun ds => ofO (g (d :: ds)) else .bad
theorem EF.meth (hm : MtD X id g) (pa : PlainAttrs T) (slot : Slot T name id) (hty : typeOf (.builtin id) = pure (.type "method_descriptor")) (ho : EF X W o f) (ha : EA X W (e :: es) fs)
  (hbase : attributeBase o name X.env (eval o X.env) = eval o X.env := by rfl)
  (hfew : ((backTo cpos (starEach (e :: es) X.env)).all (fun y => !y.1) && (backToKw cpos (keywordEach [] X.env)).all (fun y => y.1.isSome) && decide ((e :: es).length + ([] : List Keyword).length + (if ([] : List Keyword).isEmpty then 0 else 1) < 30)) = true := by rfl)
  (hline : (apos.endLine == cpos.line) = true := by rfl) (hs : starEach (e :: es) X.env = (false, eval e X.env) :: starEach es X.env := by rfl) (hp : (backTo cpos (starEach es X.env)).any (·.1) = false := by rfl) :
  EF X W (.Call (.Attribute o name apos) (e :: es) [] cpos) (met T g f fs) := ⟨fun B => PE.mono (pe_bm pa slot hty hm (ho.run B) (ha.run B) hbase hfew hline hs hp) fun σ H Q ⟨G, ρ, r, h⟩ => by
 unfold met at h
 refine lift.next (rel := relD X.K X.mg) (g := fun d ρ => if tyD T d = true then (fs ρ).bind fun ds => FL.ofO (g (d :: ds)) else .bad) later_D r h fun d v G1 H1 r1 s1 q1 w1 => ?_
 by_cases ht : tyD T d = true
 ·rw [if_pos ht] at w1
  refine ⟨tyD_ok r1.gh ht q1, ?_⟩
  refine lift.next (rel := relL X.K X.mg) (g := fun ds _ => FL.ofO (g (d :: ds))) later_D r1 w1 fun ds vs G2 H2 r2 s2 q2 w2 => ?_
  cases hg : g (d :: ds) with
  | none => rw [hg] at w2; exact w2.elim
  | some c =>
   rw [hg] at w2
   exact ⟨G2, d, ds, c, r2.gh, R.mono s2.gg q1, q2, hg, w2⟩
 ·rw [if_neg ht] at w1
  exact w1.elim⟩
def cntL : List D → Option D
 | [.lst ds, d] => if flat d && ds.all flat then some (.int (ds.countP fun y => eqv y d)) else none
 | _ => none
def idxN (d : D) : List D → Option Nat
 | [] => none
 | y :: ys => if eqv y d = true then some 0 else (idxN d ys).map (· + 1)
def idxL : List D → Option D
 | [.lst ds, d] => if flat d && ds.all flat then (idxN d ds).map fun j => .int (j : Nat) else none
 | _ => none
theorem idxN_some {d : D} : ∀ {ds : List D} {j : Nat}, idxN d ds = some j → ∃ y, ds[j]? = some y ∧ eqv y d = true ∧ ∀ m z, m < j → ds[m]? = some z → eqv z d = false
 | [], _, h => nomatch h
 | y :: ys, j, h => by
  unfold idxN at h
  by_cases e : eqv y d = true
  ·rw [if_pos e] at h
   cases h
   exact ⟨y, rfl, e, fun m z hm => absurd hm (Nat.not_lt_zero _)⟩
  ·rw [if_neg e] at h
   obtain ⟨i, h1, rfl⟩ := Option.map_eq_some_iff.mp h
   obtain ⟨z, z1, z2, z3⟩ := idxN_some h1
   refine ⟨z, z1, z2, fun m w hm hw => ?_⟩
   cases m with
   | zero => cases hw; simpa using e
   | succ m => exact z3 m w (by omega) hw
theorem flats_V {K : PySem.W.Frag} {mg : Str → Option Value} {G : Hp} : ∀ {ds : List D} {vs : List V}, ds.all flat = true → Rs K mg G ds vs → vs.all flatV = true
 | [], [], _, _ => rfl
 | [], _ :: _, _, h => by obtain ⟨v, w, z, _⟩ := id h
 | d :: ds, vs, f, h => by
  obtain ⟨v, ws, rfl, q1, q2⟩ := id h
  rw [List.all_cons, Bool.and_eq_true] at f
  rw [List.all_cons, flat_V f.1 q1, flats_V f.2 q2]; rfl
theorem idx_ok : MtD X "list.index" idxL := by
 rintro pins s σ H x xs v us Q I rx rxs ⟨G, d, ds, c, gh, r1, r2, hg, k⟩
 unfold idxL at hg
 split at hg
 ·rename_i ds' d' e
  cases e
  split at hg
  ·rename_i hf
   rw [Bool.and_eq_true] at hf
   obtain ⟨j, h1, rfl⟩ := Option.map_eq_some_iff.mp hg
   obtain ⟨y, y1, y2, y3⟩ := idxN_some h1
   obtain ⟨q, vs, rfl, _, e1, q1⟩ := r1.lst
   obtain ⟨u, rfl, ru⟩ := r2.one
   obtain ⟨yv, yv1, yv2⟩ := q1.get y1
   have fy : flat y = true := List.all_eq_true.mp hf.2 y (List.mem_of_getElem? y1)
   refine mt_index pins s σ H _ _ v us Q I rx rxs ⟨q, vs, u, j, yv, rfl, rfl, SqL.of (gh _ _ e1), flat_V hf.1 ru, flats_V hf.2 q1, yv1, by rw [eqV_eqv fy hf.1 yv2 ru]; exact y2, fun m z hm hz => ?_, k _ _ _ (Stp.refl gh) rfl⟩
   have hl := q1.len
   have hml : m < ds'.length := by rw [← hl]; exact (List.getElem?_eq_some_iff.mp hz).1
   obtain ⟨zv, z1, z2⟩ := q1.get (List.getElem?_eq_getElem hml)
   rw [hz] at z1
   cases z1
   rw [eqV_eqv (List.all_eq_true.mp hf.2 _ (List.getElem_mem hml)) hf.1 z2 ru]
   exact y3 m _ hm (List.getElem?_eq_getElem hml)
  ·cases hg
 ·cases hg
theorem cnt_V {K : PySem.W.Frag} {mg : Str → Option Value} {G : Hp} {d : D} {u : V} (fd : flat d = true) (ru : R K mg G d u) : ∀ {ds : List D} {vs : List V} {ws : List Value}, ds.all flat = true → Rs K mg G ds vs → Vals vs ws → ws.countP (eqU u) = ds.countP fun y => eqv y d
 | [], [], [], _, _, _ => rfl
 | [], _ :: _, _, _, h, _ => by obtain ⟨v, w, z, _⟩ := id h
 | y :: ds, vs, ws, f, h, hv => by
  obtain ⟨v, vs', rfl, q1, q2⟩ := id h
  cases hv with
  | cons r t =>
   rw [List.all_cons, Bool.and_eq_true] at f
   rw [List.countP_cons, List.countP_cons, cnt_V fd ru f.2 q2 t, eqU_of r (flat_V f.1 q1), eqV_eqv f.1 fd q1 ru]
theorem cnt_ok : MtD X "list.count" cntL := by
 rintro pins s σ H x xs v us Q I rx rxs ⟨G, d, ds, c, gh, r1, r2, hg, k⟩
 unfold cntL at hg
 split at hg
 ·rename_i ds' d' e
  cases e
  split at hg
  ·rename_i hf
   rw [Bool.and_eq_true] at hf
   cases hg
   obtain ⟨q, vs, rfl, _, e1, q1⟩ := r1.lst
   obtain ⟨u, rfl, ru⟩ := r2.one
   cases rx
   obtain ⟨uu, rfl, ruu⟩ := rxs.one
   obtain ⟨items, rv, ⟨⟨oc, od, odt, osl⟩, n, hob, c1, c2, c3⟩, hln⟩ := I.list (SqL.of (gh _ _ e1))
   dsimp only at c1 c3
   subst c1 c3
   have fu := flat_V hf.1 ru
   have fvs := flats_V hf.2 q1
   refine call_meets PySem.F.slot_list_count ⟨_, hob, rfl⟩ PySem.F.entry_list_count (PySem.F.args_list_count_2 _ _) (SeqAt.list_countAt q items.toArray n od osl uu (eqU u)) ⟨hob, fun y hy => mem_eqAt ruu fu rv fvs y (by simpa using hy), ?_⟩
   refine ⟨.int (ds'.countP fun y => eqv y d'), H, I.tok _, ⟨s.toks, ?_⟩, k _ _ _ (Stp.refl gh) rfl⟩
   have ec := cnt_V hf.1 ru hf.2 q1 rv
   show Value.int ((items.toArray.toList.countP (eqU u) : Nat) : Int) s.toks = Value.int ((ds'.countP fun y => eqv y d' : Nat) : Int) s.toks
   rw [← ec]
  ·cases hg
 ·cases hg
end
def Told (mg : Str → Option Value) (c : Str) (q : Addr × Obj) : Prop := ∃ C, mg c = some (.ref C) ∧ L2N.Zn (.ref C) none q.2 ∧ ∃ vs, q.2.data = .fields vs
section
variable {P : Program} {w : World} {K : PySem.W.Frag} {mg : Str → Option Value} {base : Heap}
structure HotFn (P : Program) (w : World) (K : PySem.W.Frag) (mg : Str → Option Value) (base : Heap) (k : Nat) (f : Addr) (fd : FuncData) (ps : List Str) (c : Str) (sp : Addr → Sp) : Prop where
 len : ∀ a vs H Q E, sp a vs H Q E → vs.length = ps.length
 run : ∀ (A : Around) (out : List Env) (s : Shared) (H : Hp) (ar : Args) (us : List Value) (vs : List V) (Q : VK) (E : XK) (q : Addr × Obj), L2H.RoomH k A → L2H.Hot1 A q → Told mg c q → L2H.PinOk out H s q → Env0 P w K mg base A out s H →
  BindsTo s fd ar (ps.zip us) → Vals vs us → sp q.1 vs H Q E → codeAny (model P w) A (.call (.ref f) ar) (CR CX0 out P w H s Q E) s
structure CalH (P : Program) (w : World) (K : PySem.W.Frag) (mg : Str → Option Value) (base : Heap) (x : Str) (k : Nat) (c : Str) (F : Addr → List D → Res OT) : Prop where
 ex : ∃ f fd ps, HotFn P w K mg base k f fd ps c (fun a => spP K mg False (F a)) ∧ mg x = some (.ref f) ∧ PySem.W.keepIn K (.ref f) = true ∧ Binds K fd ps []
end
section
variable {X : Cx} {W : WW} {e : Expr} {es : List Expr} {fs : En → Res (List D)} {x : Str} {k : Nat} {p pos : Pos} {F : Addr → List D → Res OT} {a : Addr} {c : Str}
end
theorem hu64h {k : Nat} {A : Around} (r : L2H.RoomH k A) : A.units + 64 < cLine := by have := r.un; omega
theorem roomS {k : Nat} {A : Around} {h : Option Value} (r : Room k A) : L2H.RoomH k (A.mark h) := ⟨r.dp, r.un⟩
end FL
namespace FL
open PySem PySem.Spec PyProof.Rows L2
theorem set_getElem_self_ {α : Type} {l : List α} {j : Nat} {x : α} (h : l[j]? = some x) : l.set j x = l := by
 apply List.ext_getElem?
 intro k
 rw [List.getElem?_set]
 split
 ·rename_i e
  subst e
  have hl := (List.getElem?_eq_some_iff.mp h).1
  rw [if_pos hl, h]
 ·rfl
def kids : OT → List OT
 | .d _ => []
 | .lst ts => ts
 | .tup ts => ts
 | .dK _ ts => ts
 | .dT _ ts => ts
 | .lk _ ts => ts
 | .ins _ _ ts => ts
def OT.wk : OT → List OT → OT
 | .d x, _ => .d x
 | .lst _, us => .lst us
 | .tup _, us => .tup us
 | .dK ks _, us => .dK ks us
 | .dT ks _, us => .dT ks us
 | .lk ks _, us => .lk ks us
 | .ins C ns _, us => .ins C ns us
def OT.sub : OT → List Nat → Option OT
 | t, [] => some t
 | t, j :: p => match (kids t)[j]? with
  | some u => OT.sub u p
  | none => none
def OT.put : OT → List Nat → OT → OT
 | _, [], u => u
 | t, j :: p, u => match (kids t)[j]? with
  | some w => t.wk ((kids t).set j (OT.put w p u))
  | none => t
theorem sub_app : ∀ {p q : List Nat} {o a : OT}, o.sub p = some a → o.sub (p ++ q) = a.sub q
 | [], q, o, a, h => by cases h; rfl
 | j :: p, q, o, a, h => by
  unfold OT.sub at h
  split at h
  ·rename_i t ht
   rw [List.cons_append, OT.sub, ht]
   exact sub_app h
  ·cases h
theorem put_app : ∀ {p q : List Nat} {o a u : OT}, o.sub p = some a → o.put (p ++ q) u = o.put p (a.put q u)
 | [], q, o, a, u, h => by cases h; rfl
 | j :: p, q, o, a, u, h => by
  unfold OT.sub at h
  split at h
  ·rename_i t ht
   rw [List.cons_append, OT.put, OT.put, ht]
   dsimp only
   rw [put_app h]
  ·cases h
def kidsV : HO → List V
 | .lst vs => vs
 | .tup vs => vs
 | .dK kvs => kvs.map (·.2)
 | .dT kvs => kvs.map (·.2)
 | .frz _ (.dK kvs) => kvs.map (·.2)
 | .ins _ _ fs => fs.map (·.2)
 | _ => []
def walkV (H : Hp) : V → List Nat → Option V
 | v, [] => some v
 | .ref a, j :: p => match H a with
  | some o => match (kidsV o)[j]? with
   | some v => walkV H v p
   | none => none
  | none => none
 | _, _ :: _ => none
theorem walkV_mono {H H' : Hp} (h : Same H H') : ∀ {p : List Nat} {v w : V}, walkV H v p = some w → walkV H' v p = some w
 | [], _, _, e => e
 | j :: p, v, w, e => by
  cases v with
  | ref a =>
   unfold walkV at e ⊢
   split at e
   ·rename_i o ha
    rw [h _ _ ha]
    dsimp only
    split at e
    ·rename_i u hu
     exact walkV_mono h e
    ·cases e
   ·cases e
  | _ => cases e
theorem walkV_snocG {H : Hp} : ∀ {p : List Nat} {v : V} {b : Addr} {o : HO} {j : Nat} {w : V}, walkV H v p = some (.ref b) → H b = some o → (kidsV o)[j]? = some w → walkV H v (p ++ [j]) = some w
 | [], v, b, o, j, w, e, hb, hj => by
  cases e
  show walkV H (.ref b) [j] = _
  unfold walkV
  rw [hb]
  dsimp only
  rw [hj]; rfl
 | i :: p, v, b, o, j, w, e, hb, hj => by
  cases v with
  | ref a =>
   rw [List.cons_append]
   unfold walkV at e ⊢
   split at e
   ·rename_i o' ha
    split at e
    ·rename_i u hu
     exact walkV_snocG e hb hj
    ·cases e
   ·cases e
  | _ => cases e
theorem walkV_snoc {H : Hp} {p : List Nat} {v : V} {b : Addr} {vs : List V} {j : Nat} {w : V} (e : walkV H v p = some (.ref b)) (hb : H b = some (.lst vs) ∨ H b = some (.tup vs)) (hj : vs[j]? = some w) : walkV H v (p ++ [j]) = some w := by
 rcases hb with hb | hb
 ·exact walkV_snocG e hb hj
 ·exact walkV_snocG e hb hj
section
variable {K : PySem.W.Frag} {mg : Str → Option Value} {B : Bs} {G H : Hp} {σ : L2.St} {ρ : En}
theorem RO.node {t : OT} {v : V} {fp : List Addr} (gh : Same G H) (r : RO K mg G H t v fp) : (∃ d, t = .d d) ∨ ∃ a f0 fs o, v = .ref a ∧ fp = f0 ++ fs ∧ H a = some o ∧ ROs K mg G H (kids t) (kidsV o) fs ∧
  ∀ G' H' ts' fs', Same G G' → Same G' H' → (∀ x ∈ f0, H' x = H x) → ts'.length = (kids t).length → ROs K mg G' H' ts' (kidsV o) fs' → H' a = some o ∧ RO K mg G' H' (t.wk ts') v (f0 ++ fs') := by
 have zz : ∀ {κ : Type} {ks : List κ} {us : List OT} {ws : List V} {fs : List Addr}, ks.length = us.length → ROs K mg G H us ws fs → (ks.zip ws).map (·.2) = ws := fun {κ ks us ws fs} l q => List.map_snd_zip (by rw [q.len, l]; exact Nat.le_refl _)
 cases t with
 | d x => exact .inl ⟨x, rfl⟩
 | lst ts =>
  obtain ⟨a, vs, fs, e1, e2, l, h, q⟩ := r
  exact .inr ⟨a, [a], fs, _, e1, e2, h, q, fun G' H' ts' fs' g g2 e l' q' => by
   have e := (e a List.mem_cons_self).trans h
   exact ⟨e, a, vs, fs', e1, rfl, by rw [l']; exact l, e, q'⟩⟩
 | tup ts =>
  obtain ⟨a, vs, fs, e1, e2, l, h, q⟩ := r
  exact .inr ⟨a, [a], fs, _, e1, e2, h, q, fun G' H' ts' fs' g g2 e l' q' => by
   have e := (e a List.mem_cons_self).trans h
   exact ⟨e, a, vs, fs', e1, rfl, by rw [l']; exact l, e, q'⟩⟩
 | dK ks ts =>
  obtain ⟨a, vs, fs, e1, e2, l, h, q⟩ := r
  have z := zz l q
  refine .inr ⟨a, [a], fs, _, e1, e2, h, by show ROs K mg G H ts ((ks.zip vs).map (·.2)) fs; rw [z]; exact q, fun G' H' ts' fs' g g2 e l' q' => ?_⟩
  have e := (e a List.mem_cons_self).trans h
  refine ⟨e, a, vs, fs', e1, rfl, by rw [l']; exact l, e, ?_⟩
  change ROs K mg G' H' ts' ((ks.zip vs).map (·.2)) fs' at q'
  rw [z] at q'; exact q'
 | dT ks ts =>
  obtain ⟨a, vs, fs, e1, e2, l, h, q⟩ := r
  have z := zz l q
  refine .inr ⟨a, [a], fs, _, e1, e2, h, by show ROs K mg G H ts ((ks.zip vs).map (·.2)) fs; rw [z]; exact q, fun G' H' ts' fs' g g2 e l' q' => ?_⟩
  have e := (e a List.mem_cons_self).trans h
  refine ⟨e, a, vs, fs', e1, rfl, by rw [l']; exact l, e, ?_⟩
  change ROs K mg G' H' ts' ((ks.zip vs).map (·.2)) fs' at q'
  rw [z] at q'; exact q'
 | lk ks ts =>
  obtain ⟨a, vs, e1, l, h, q⟩ := r
  have z := zz l q
  have fin : ∀ o, G a = some o → Rd G a (.dK (ks.zip vs)) → kidsV o = vs → ∃ a f0 fs o, v = .ref a ∧ fp = f0 ++ fs ∧ H a = some o ∧ ROs K mg G H (kids (.lk ks ts)) (kidsV o) fs ∧
    ∀ G' H' ts' fs', Same G G' → Same G' H' → (∀ x ∈ f0, H' x = H x) → ts'.length = (kids (.lk ks ts)).length → ROs K mg G' H' ts' (kidsV o) fs' → H' a = some o ∧ RO K mg G' H' ((OT.lk ks ts).wk ts') v (f0 ++ fs') := fun o ho hr kv =>
   ⟨a, [], fp, o, e1, rfl, gh _ _ ho, by rw [kv]; exact q, fun G' H' ts' fs' g g2 e l' q' => ⟨g2 _ _ (g _ _ ho), a, vs, e1, by rw [l']; exact l, Rd.mono g hr, by rw [kv] at q'; exact q'⟩⟩
  rcases h with h | ⟨o, h⟩
  ·exact .inr (fin _ h (.inl h) z)
  ·exact .inr (fin _ h (.inr ⟨o, h⟩) z)
 | ins C ns ts =>
  obtain ⟨a, ca, dx, vs, fs, e1, c, e2, l, h, q⟩ := r
  have z := zz l q
  refine .inr ⟨a, [a], fs, _, e1, e2, h, by show ROs K mg G H ts ((ns.zip vs).map (·.2)) fs; rw [z]; exact q, fun G' H' ts' fs' g g2 e l' q' => ?_⟩
  have e := (e a List.mem_cons_self).trans h
  refine ⟨e, a, ca, dx, vs, fs', e1, c, rfl, by rw [l']; exact l, e, ?_⟩
  change ROs K mg G' H' ts' ((ns.zip vs).map (·.2)) fs' at q'
  rw [z] at q'; exact q'
theorem set_self {α : Type} {l : List α} {j : Nat} {x : α} (h : l[j]? = some x) : l.set j x = l := set_getElem_self_ h
theorem RO.ctx (gh : Same G H) : ∀ {p : List Nat} {t t' : OT} {v : V} {fp : List Addr}, RO K mg G H t v fp → t.sub p = some t' → ∃ v' g1 f' g2, walkV H v p = some v' ∧ fp = g1 ++ (f' ++ g2) ∧ RO K mg G H t' v' f' ∧
  ∀ G1 H1 t'' f'', Same G G1 → Same G1 H1 → (∀ x, x ∈ g1 ∨ x ∈ g2 → H1 x = H x) → RO K mg G1 H1 t'' v' f'' → walkV H1 v p = some v' ∧ RO K mg G1 H1 (t.put p t'') v (g1 ++ (f'' ++ g2))
 | [], t, t', v, fp, r, e => by
  cases e
  exact ⟨v, [], fp, [], by unfold walkV; rfl, by simp, r, fun G1 H1 t'' f'' _ _ _ h => ⟨by unfold walkV; rfl, by rw [OT.put]; simpa using h⟩⟩
 | j :: p, t, t', v, fp, r, e => by
  unfold OT.sub at e
  split at e
  ·rename_i u hu
   rcases r.node gh with ⟨d, rfl⟩ | ⟨a, f0, fs, o, rfl, rfl, ha, ro, back⟩
   ·cases hu
   ·obtain ⟨w, f1, fj, f2, hw, rfl, rj, bk⟩ := ro.at hu
    obtain ⟨v', g1, f', g2, h1, rfl, h3, h4⟩ := RO.ctx gh rj e
    refine ⟨v', f0 ++ (f1 ++ g1), f', g2 ++ f2, ?_, by simp, h3, fun G1 H1 t'' f'' gg gh1 fr h => ?_⟩
    ·unfold walkV
     rw [ha]
     dsimp only
     rw [hw]; exact h1
    ·have hp : t.put (j :: p) t'' = t.wk ((kids t).set j (u.put p t'')) := by rw [OT.put, hu]
     rw [hp]
     obtain ⟨q0, q⟩ := h4 G1 H1 t'' f'' gg gh1 (fun x hx => fr x (hx.elim (fun z => .inl (by simp [z])) fun z => .inr (by simp [z]))) h
     have q2 := bk G1 H1 _ w _ gg (fun x hx => fr x (hx.elim (fun z => .inl (by simp [z])) fun z => .inr (by simp [z]))) q
     rw [set_self hw] at q2
     obtain ⟨ha', q3⟩ := back G1 H1 _ _ gg gh1 (fun x hx => fr x (.inl (by simp [hx]))) (by rw [List.length_set]) q2
     refine ⟨?_, ?_⟩
     ·unfold walkV
      rw [ha']
      dsimp only
      rw [hw]; exact q0
     ·simpa using q3
  ·cases e
theorem RepV.path {i : Nat} {t0 u t : OT} {p : List Nat} {v : V} (r : RepV K mg B G H σ ρ t v) (e : ρ[i]? = some (some t0)) (es : t0.sub p = some u) : ∃ v0 w gu fv, σ[i]? = some (some v0) ∧ walkV H v0 p = some w ∧ RO K mg G H u w gu ∧ RO K mg G H t v fv ∧ (gu ++ fv).Nodup ∧
  ∀ b o u' fp', b ∈ gu → (∀ vs, H b ≠ some (.tup vs)) → RO K mg G (upd H b o) u' w fp' → fp'.Nodup → (∀ x ∈ fp', x ∈ gu ∨ x ∈ fv) → Rep K mg B G (upd H b o) σ (ρ.set i (some (t0.put p u'))) := by
 obtain ⟨F, fv, f, rv, ndv, atv, djv⟩ := r.sl
 obtain ⟨v0, hv, hr⟩ := f.rep i _ e
 obtain ⟨w, g1, gu, g2, h1, h2, h3, h4⟩ := hr.ctx r.g.gh es
 have nd := f.nd i
 rw [h2] at nd
 obtain ⟨n1, n2, d1⟩ := List.nodup_append.mp nd
 obtain ⟨n3, n4, d2⟩ := List.nodup_append.mp n2
 refine ⟨v0, w, gu, fv, hv, h1, h3, rv, List.nodup_append.mpr ⟨n3, ndv, fun x hx y hy z => djv i y hy (by rw [h2, ← z]; simp [hx])⟩, fun b o u' fp' hb nt h nd' sub => put_core r.g r.len f e hv (by rw [h2]; simp [hb]) (h4 G (upd H b o) u' fp' (Same.refl _) (fun x y q => by rw [upd_ne (fun z => by rw [z, (f.at_ i b (by rw [h2]; simp [hb])).2.1.elim id fun ⟨vs, z⟩ => absurd z (nt vs)] at q; cases q)]; exact r.g.gh x y q) (fun x hx => upd_ne fun z => ?_) h).2 ?_ (fun x hx => ?_) nt⟩
 ·subst z
  rcases hx with hx | hx
  ·exact d1 _ hx _ (List.mem_append_left _ hb) rfl
  ·exact d2 _ hb _ hx rfl
 ·refine List.nodup_append.mpr ⟨n1, List.nodup_append.mpr ⟨nd', n4, fun x hx y hy z => ?_⟩, fun x hx y hy z => ?_⟩
  ·rcases sub x hx with hx | hx
   ·exact d2 x hx y hy z
   ·exact djv i x hx (by rw [h2, z]; simp [hy])
  ·rcases List.mem_append.mp hy with hy | hy
   ·rcases sub y hy with hy | hy
    ·exact d1 x hx y (List.mem_append_left _ hy) z
    ·exact djv i y hy (by rw [h2, ← z]; simp [hx])
   ·exact d1 x hx y (List.mem_append_right _ hy) z
 ·rw [h2]
  rcases List.mem_append.mp hx with hx | hx
  ·exact .inl (List.mem_append_left _ hx)
  ·rcases List.mem_append.mp hx with hx | hx
   ·rcases sub x hx with hx | hx
    ·exact .inl (by simp [hx])
    ·obtain ⟨a1, a2, a3⟩ := atv x hx
     exact .inr ⟨a1, a2, a3, fun j => djv j x hx⟩
   ·exact .inl (by simp [hx])
theorem Rep.sub {i : Nat} {t0 u : OT} {p : List Nat} (r : Rep K mg B G H σ ρ) (e : ρ[i]? = some (some t0)) (es : t0.sub p = some u) : ∃ v0 w gu, σ[i]? = some (some v0) ∧ walkV H v0 p = some w ∧ RO K mg G H u w gu ∧ gu.Nodup ∧
  ∀ b o u' fp', b ∈ gu → (∀ vs, H b ≠ some (.tup vs)) → RO K mg G (upd H b o) u' w fp' → fp'.Nodup → (∀ x ∈ fp', x ∈ gu) → Rep K mg B G (upd H b o) σ (ρ.set i (some (t0.put p u'))) := by
 obtain ⟨v0, w, gu, fv, h1, h2, h3, h4, h5, h6⟩ := (r.val (d := .non) (v := .non) rfl).path e es
 have : fv = [] := h4.1
 subst this
 rw [List.append_nil] at h5
 exact ⟨v0, w, gu, h1, h2, h3, h5, fun b o u' fp' hb nt h nd sub => h6 b o u' fp' hb nt h nd fun x hx => .inl (sub x hx)⟩
theorem Rep.path {i : Nat} {t0 : OT} {p : List Nat} {us : List OT} (r : Rep K mg B G H σ ρ) (e : ρ[i]? = some (some t0)) (es : t0.sub p = some (.lst us)) : ∃ v0 b ws gs, σ[i]? = some (some v0) ∧ walkV H v0 p = some (.ref b) ∧ us.length ≤ sizeLine ∧ H b = some (.lst ws) ∧ ROs K mg G H us ws gs ∧ (b :: gs).Nodup ∧
  ∀ o t' fp', RO K mg G (upd H b o) t' (.ref b) fp' → fp'.Nodup → (∀ x ∈ fp', x ∈ b :: gs) → Rep K mg B G (upd H b o) σ (ρ.set i (some (t0.put p t'))) := by
 obtain ⟨v0, w, gu, h1, h2, h3, h4, h5⟩ := r.sub e es
 obtain ⟨b, ws, gs, rfl, rfl, l, hb, ro⟩ := h3
 exact ⟨v0, b, ws, gs, h1, h2, l, hb, ro, h4, fun o t' fp' h nd sub => h5 b o t' fp' List.mem_cons_self (ntO hb) h nd sub⟩
end
def relW (σ : L2.St) (s : Nat) (_ _ H' : Hp) (p : List Nat) (v : V) : Prop := ∃ v0, σ[s]? = some (some v0) ∧ walkV H' v0 p = some v
theorem later_W {σ : L2.St} {s : Nat} : Later (relW σ s) := fun _ _ _ _ _ _ _ h => h
section
variable {X : Cx} {W : WW} {io : List Nat} {s : Nat} {a b e o : Expr} {es : List Expr} {f : En → Res (List Nat)} {fi : En → Res D} {fs : En → Res (List D)} {pos ppos apos cpos : Pos} {x : Str} {name id : String}
structure EP (X : Cx) (W : WW) (s : Nat) (e : Expr) (f : En → Res (List Nat)) : Prop where
 run : ∀ B, PE X e (fun σ H Q => lift X W (relW σ s) B f σ H Q)
def hereP (s : Nat) (ρ : En) : Res (List Nat) := match ρ[s]? with
 | some (some _) => .ok []
 | _ => .bad
theorem EP.nm (s : Nat) (hN : X.N[s]? = some x := by rfl) (hv : Vis X.env.scope x := by first | exact Or.inl rfl | exact Or.inr (Or.inl rfl) | exact Or.inr (Or.inr rfl)) (hd : (x == ("__debug__" : Str)) = false := by decide) (hcd : (x == ("__classdict__" : Str)) = false := by decide) : EP X W s (.Name x ppos) (hereP s) := ⟨fun B =>
 PE.mono (pe_var (i := s) hN hv hd hcd) fun σ H Q ⟨G, ρ, r, h⟩ => by
  unfold hereP at h
  split at h
  ·rename_i ts es
   obtain ⟨v, fp, hv, _⟩ := r.slot es
   exact ⟨v, hv, h _ _ _ (Stp.refl r.gh) ⟨_, hv, by unfold walkV; rfl⟩⟩
  ·exact h.elim⟩
theorem ix_ltd (hu : X.A.units + 64 < cLine) : IxR X (fun x y H Q => (∃ p vs i w, x = .ref p ∧ y = .int i ∧ (SqL X.K H p vs ∨ SqT X.K H p vs) ∧ atI vs i = some w ∧ Q w H) ∨ ∃ a w, x = .ref a ∧ DGet H a y (some w) ∧ Q w H) := by
 intro value slice pins s σ H x y v u Q I rx ry h hs
 rcases h with ⟨p, vs, i, w, e1, e2, h, e3, q⟩ | h
 ·rcases h with h | h
  ·exact ix_list value slice pins s σ H x y v u Q I rx ry ⟨p, vs, i, w, e1, e2, h, e3, q⟩ hs
  ·exact ix_tup value slice pins s σ H x y v u Q I rx ry ⟨p, vs, i, w, e1, e2, h, e3, q⟩ hs
 ·exact ix_dict hu value slice pins s σ H x y v u Q I rx ry h hs
def keyIx {κ : Type} [DecidableEq κ] : List κ → κ → Option Nat
 | [], _ => none
 | k :: ks, q => if k = q then some 0 else (keyIx ks q).map (· + 1)
theorem keyIx_ok {κ : Type} [DecidableEq κ] {q : κ} : ∀ {ks : List κ} {ws : List V} {j : Nat}, keyIx ks q = some j → ks.length = ws.length → ∃ w, ws[j]? = some w ∧ valV (ks.zip ws) q = some w
 | [], _, _, h, _ => nomatch h
 | k :: ks, [], _, _, l => nomatch l
 | k :: ks, w :: ws, j, h, l => by
  unfold keyIx at h
  split at h
  ·rename_i e
   cases h
   exact ⟨w, rfl, by rw [List.zip_cons_cons]; exact valV_pos (p := (k, w)) e⟩
  ·rename_i e
   obtain ⟨i, hi, rfl⟩ := Option.map_eq_some_iff.mp h
   obtain ⟨u, h1, h2⟩ := keyIx_ok hi (by simpa using l)
   exact ⟨u, by simpa using h1, by rw [List.zip_cons_cons, valV_neg (p := (k, w)) e]; exact h2⟩
def stepP (s : Nat) (ρ : En) (p : List Nat) (k : D) : Res (List Nat) := match ρ[s]? with
 | some (some t0) => match t0.sub p, k with
  | some (.lst us), .int i => match ixN us.length i with
   | some j => .ok (p ++ [j])
   | none => .bad
  | some (.tup us), .int i => match ixN us.length i with
   | some j => .ok (p ++ [j])
   | none => .bad
  | some (.dK ks us), k => match keyOf k with
   | some q => match keyIx ks q with
    | some j => .ok (p ++ [j])
    | none => .bad
   | none => .bad
  | some (.lk ks us), k => match keyOf k with
   | some q => match keyIx ks q with
    | some j => .ok (p ++ [j])
    | none => .bad
   | none => .bad
  | some (.dT ks us), .tup ds => match keysOf ds with
   | some q => match keyIx ks q with
    | some j => .ok (p ++ [j])
    | none => .bad
   | none => .bad
  | _, _ => .bad
 | _ => .bad
def ixP (s : Nat) (f : En → Res (List Nat)) (fi : En → Res D) (ρ : En) : Res (List Nat) := (f ρ).bind fun p => (fi ρ).bind fun k => stepP s ρ p k
theorem EP.ix (hu : X.A.units + 64 < cLine) (he : EP X W s e f) (hi : EF X W b fi) (hs : PlainIx b := by intro _ _; rfl) : EP X W s (.Subscript e b pos) (ixP s f fi) := ⟨fun B => PE.mono (pe_ix (ix_ltd hu) (he.run B) (hi.run B) hs) fun σ H Q ⟨G, ρ, r, h⟩ => by
 unfold ixP at h
 refine lift.next (rel := relW σ s) (g := fun p ρ => (fi ρ).bind fun k => stepP s ρ p k) later_W r h fun p v G1 H1 r1 s1 q1 w1 => ?_
 refine lift.next (rel := relD X.K X.mg) (g := fun k ρ => stepP s ρ p k) later_W r1 w1 fun k y G2 H2 r2 s2 q2 w2 => ?_
 unfold stepP at w2
 split at w2
 ·rename_i t0 e0
  obtain ⟨v1, g1, g2⟩ := q1
  have g2 := walkV_mono s2.hh g2
  split at w2
  ·rename_i us i es
   obtain ⟨v0, w0, gu, h1, h2, ⟨c, ws, gs, e1, e2, h3, h4, h5⟩, _⟩ := r2.sub e0 es
   rw [h1] at g1
   cases g1
   rw [h2] at g2
   cases g2
   subst e1
   cases q2
   split at w2
   ·rename_i j hj
    have hjl : j < us.length := (ixN_seq hj).2.1
    obtain ⟨w, hw⟩ : ∃ w, ws[j]? = some w := ⟨_, List.getElem?_eq_getElem (by rw [h5.len]; exact hjl)⟩
    refine .inl ⟨c, ws, i, w, rfl, rfl, .inl (SqL.of h4), ?_, w2 _ _ _ (Stp.refl r2.gh) ⟨_, h1, walkV_snoc h2 (.inl h4) hw⟩⟩
    unfold L2.atI
    rw [h5.len, hj]
    exact hw
   ·exact w2.elim
  ·rename_i us i es
   obtain ⟨v0, w0, gu, h1, h2, ⟨c, ws, gs, e1, e2, h3, h4, h5⟩, _⟩ := r2.sub e0 es
   rw [h1] at g1
   cases g1
   rw [h2] at g2
   cases g2
   subst e1
   cases q2
   split at w2
   ·rename_i j hj
    have hjl : j < us.length := (ixN_seq hj).2.1
    obtain ⟨w, hw⟩ : ∃ w, ws[j]? = some w := ⟨_, List.getElem?_eq_getElem (by rw [h5.len]; exact hjl)⟩
    refine .inl ⟨c, ws, i, w, rfl, rfl, .inr (SqT.of h4), ?_, w2 _ _ _ (Stp.refl r2.gh) ⟨_, h1, walkV_snoc h2 (.inr h4) hw⟩⟩
    unfold L2.atI
    rw [h5.len, hj]
    exact hw
   ·exact w2.elim
  ·rename_i ks us es
   obtain ⟨v0, w0, gu, h1, h2, ⟨c, ws, gs, e1, e2, h3, h4, h5⟩, _⟩ := r2.sub e0 es
   rw [h1] at g1
   cases g1
   rw [h2] at g2
   cases g2
   subst e1
   split at w2
   ·rename_i q hq
    split at w2
    ·rename_i j hj
     have hl : ks.length = ws.length := by rw [h5.len]; exact h3
     obtain ⟨w, hw, hv⟩ := keyIx_ok hj hl
     refine .inr ⟨c, w, rfl, ?_, w2 _ _ _ (Stp.refl r2.gh) ⟨_, h1, walkV_snocG h2 h4 (by show ((ks.zip ws).map (·.2))[j]? = _; rw [List.map_snd_zip (by rw [hl]; exact Nat.le_refl _)]; exact hw)⟩⟩
     have q2' : R X.K X.mg G2 _ y := q2
     rw [keyOf_ok q2' hq, ← hv]
     exact DGet.k h4
    ·exact w2.elim
   ·exact w2.elim
  ·rename_i ks us es
   obtain ⟨v0, w0, gu, h1, h2, ⟨c, ws, e1, h3, h4, h5⟩, _⟩ := r2.sub e0 es
   rw [h1] at g1
   cases g1
   rw [h2] at g2
   cases g2
   subst e1
   split at w2
   ·rename_i q hq
    split at w2
    ·rename_i j hj
     have hl : ks.length = ws.length := by rw [h5.len]; exact h3
     obtain ⟨w, hw, hv⟩ := keyIx_ok hj hl
     have h4 : Rd H2 c (.dK (ks.zip ws)) := Rd.mono r2.gh h4
     have hz : ((ks.zip ws).map (·.2))[j]? = some w := by rw [List.map_snd_zip (by rw [hl]; exact Nat.le_refl _)]; exact hw
     refine .inr ⟨c, w, rfl, ?_, w2 _ _ _ (Stp.refl r2.gh) ⟨_, h1, ?_⟩⟩
     ·have q2' : R X.K X.mg G2 _ y := q2
      rw [keyOf_ok q2' hq, ← hv]
      exact .inl ⟨_, _, h4, rfl, rfl⟩
     ·rcases h4 with h4 | ⟨o, h4⟩
      ·exact walkV_snocG h2 h4 hz
      ·exact walkV_snocG h2 h4 hz
    ·exact w2.elim
   ·exact w2.elim
  ·rename_i ks us ds es
   obtain ⟨v0, w0, gu, h1, h2, ⟨c, ws, gs, e1, e2, h3, h4, h5⟩, _⟩ := r2.sub e0 es
   rw [h1] at g1
   cases g1
   rw [h2] at g2
   cases g2
   subst e1
   split at w2
   ·rename_i q hq
    split at w2
    ·rename_i j hj
     have hl : ks.length = ws.length := by rw [h5.len]; exact h3
     obtain ⟨w, hw, hv⟩ := keyIx_ok hj hl
     obtain ⟨d, us', rfl, _, eb, qb⟩ := R.tup q2
     refine .inr ⟨c, w, rfl, ?_, w2 _ _ _ (Stp.refl r2.gh) ⟨_, h1, walkV_snocG h2 h4 (by show ((ks.zip ws).map (·.2))[j]? = _; rw [List.map_snd_zip (by rw [hl]; exact Nat.le_refl _)]; exact hw)⟩⟩
     rw [← hv]
     exact DGet.t h4 (by rw [← keysOf_ok qb hq]; exact r2.gh _ _ eb)
    ·exact w2.elim
   ·exact w2.elim
  ·exact w2.elim
 ·exact w2.elim⟩
end
end FL
namespace FL
open PySem PySem.Spec PyProof.Rows L2
section
variable {K : PySem.W.Frag} {mg : Str → Option Value} {G H : Hp}
theorem ROs.split : ∀ {ts us : List OT} {vs : List V} {fs : List Addr}, ROs K mg G H (ts ++ us) vs fs → ∃ f1 f2, fs = f1 ++ f2 ∧ ROs K mg G H ts (vs.take ts.length) f1 ∧ ROs K mg G H us (vs.drop ts.length) f2
 | [], us, vs, fs, h => ⟨[], fs, rfl, ⟨by simp, rfl⟩, by simpa using h⟩
 | t :: ts, us, vs, fs, ⟨v, r, g1, g2, e1, e2, h, q⟩ => by
  obtain ⟨f1, f2, a1, a2, a3⟩ := ROs.split q
  subst e1 e2
  refine ⟨g1 ++ f1, f2, by rw [a1, List.append_assoc], ?_, by simpa using a3⟩
  rw [List.length_cons, List.take_succ_cons]
  exact ⟨v, _, g1, f1, rfl, rfl, h, a2⟩
theorem ROs.reverse : ∀ {ts : List OT} {vs : List V} {fs : List Addr}, ROs K mg G H ts vs fs → ∃ fs', fs'.Perm fs ∧ ROs K mg G H ts.reverse vs.reverse fs'
 | [], _, _, ⟨e1, e2⟩ => by subst e1 e2; exact ⟨[], .refl _, rfl, rfl⟩
 | t :: ts, _, _, ⟨v, r, f1, f2, e1, e2, h, q⟩ => by
  subst e1 e2
  obtain ⟨g, a1, a2⟩ := q.reverse
  refine ⟨g ++ f1, (List.perm_append_comm).trans (List.Perm.append_left _ a1), ?_⟩
  rw [List.reverse_cons, List.reverse_cons]
  exact a2.append (ROs.one h)
end
def rMut (K : PySem.W.Frag) (mg : Str → Option Value) (M : List OT → List D → Option (List OT)) : V → List V → Hp → VK → Prop := fun x vs H Q => ∃ G l xs ts fs ds ts', x = .ref l ∧ Same G H ∧ H l = some (.lst xs) ∧ ROs K mg G H ts xs fs ∧ (l :: fs).Nodup ∧ ts.length ≤ sizeLine ∧ Rs K mg G ds vs ∧ M ts ds = some ts' ∧
 ∀ v xs' fs', ROs K mg G (upd H l (.lst xs')) ts' xs' fs' → fs'.Nodup → (∀ p ∈ fs', p ∈ fs) → ts'.length ≤ sizeLine → Q v (upd H l (.lst xs'))
def MutL (X : Cx) (id : String) (M : List OT → List D → Option (List OT)) : Prop := MtR X id (rMut X.K X.mg M)
section
variable {X : Cx} {W : WW} {io : List Nat} {s : Nat} {a b e o : Expr} {es : List Expr} {f : En → Res (List Nat)} {fi : En → Res D} {fs : En → Res (List D)} {pos ppos apos cpos : Pos} {x : Str} {name id : String} {M : List OT → List D → Option (List OT)}
def mutF (s : Nat) (M : List OT → List D → Option (List OT)) (f : En → Res (List Nat)) (fs : En → Res (List D)) (ρ : En) : Flw := bindF (f ρ) ρ fun p => match ρ[s]? with
 | some (some t0) => match t0.sub p with
  | some (.lst us) => bindF (fs ρ) ρ fun ds => match M us ds with
   | some us' => .nx (ρ.set s (some (t0.put p (.lst us'))))
   | none => .bad
  | _ => .bad
 | _ => .bad
theorem mut_core {B : Bs} {N : Ends} {G H : Hp} {σ : L2.St} {ρ : En} {t : TA} (ht : ∀ H Q, lift X W (relL X.K X.mg) B fs σ H Q → t σ H Q) (rep : Rep X.K X.mg B G H σ ρ) (h : Out X W B N (mutF s M f fs ρ)) :
  lift X W (relW σ s) B f σ H fun x H1 => tyV X.K "list" x H1 ∧ t σ H1 fun vs H2 => rMut X.K X.mg M x vs H2 fun _ H3 => N.nx σ H3 := by
 unfold mutF at h
 refine lift.of (rel := relW σ s) (g := f) rep h fun p v G1 H1 r1 s1 q1 o => ?_
 split at o
 ·rename_i t0 e0
  split at o
  ·rename_i us es
   obtain ⟨v0, c, ws, gs, h1, h2, h3, h4, h5, h6, _⟩ := r1.path e0 es
   obtain ⟨v1, g1, g2⟩ := q1
   rw [h1] at g1
   cases g1
   rw [h2] at g2
   cases g2
   refine ⟨tyV_lst h4, ht _ _ (lift.of (rel := relL X.K X.mg) (g := fs) r1 o fun ds vs G2 H2 r2 s2 q2 o2 => ?_)⟩
   obtain ⟨v0', c', ws', gs', k1, k2, k3, k4, k5, k6, back⟩ := r2.path e0 es
   rw [h1] at k1
   cases k1
   have h2' := walkV_mono s2.hh h2
   rw [h2'] at k2
   cases k2
   split at o2
   ·rename_i us' hu
    refine ⟨G2, c, ws', us, gs', ds, us', rfl, r2.gh, k4, k5, k6, k3, q2, hu, fun v xs' fs' z1 z2 z3 z4 => o2 _ _ _ (back _ _ (c :: fs') ⟨c, xs', fs', rfl, rfl, z4, upd_same, z1⟩ ?_ fun y hy => ?_)⟩
    ·exact List.nodup_cons.mpr ⟨fun z => (List.nodup_cons.mp k6).1 (z3 _ z), z2⟩
    ·rcases List.mem_cons.mp hy with rfl | hy
     ·exact List.mem_cons_self
     ·exact List.mem_cons_of_mem _ (z3 y hy)
   ·exact o2.elim
  ·exact o.elim
 ·exact o.elim
theorem S1.mutL (hM : MutL X id M) (slot : Slot "list" name id) (hty : typeOf (.builtin id) = pure (.type "method_descriptor")) (he : EP X W s o f) (ha : EA X W (e :: es) fs)
  (hbase : attributeBase o name X.env (eval o X.env) = eval o X.env := by rfl)
  (hfew : ((backTo cpos (starEach (e :: es) X.env)).all (fun y => !y.1) && (backToKw cpos (keywordEach [] X.env)).all (fun y => y.1.isSome) && decide ((e :: es).length + ([] : List Keyword).length + (if ([] : List Keyword).isEmpty then 0 else 1) < 30)) = true := by rfl)
  (hline : (apos.endLine == cpos.line) = true := by rfl) (hs : starEach (e :: es) X.env = (false, eval e X.env) :: starEach es X.env := by rfl) (hp : (backTo cpos (starEach es X.env)).any (·.1) = false := by rfl)
  (hsw : swapsWith (.Call (.Attribute o name apos) (e :: es) [] cpos) none pos.line X.env = pure false := by rfl) :
  S1 X W io (.Expr (.Call (.Attribute o name apos) (e :: es) [] cpos) pos) (mutF s M f fs) := ⟨fun B hB =>
 PS.mono (ps_expr (pe_bm PySem.F.plainAttrs_list slot hty hM (he.run B) (ha.run B) hbase hfew hline hs hp) hsw) fun N σ H ⟨G, ρ, r, h⟩ =>
  mut_core (fun _ _ z => z) r h⟩
def appM : List OT → List D → Option (List OT)
 | ts, [d] => if ts.length < 16777216 then some (ts ++ [.d d]) else none
 | _, _ => none
theorem nd_ne {l : Addr} {fs : List Addr} {H : Hp} {o : HO} (nd : (l :: fs).Nodup) : ∀ p ∈ fs, upd H l o p = H p := fun p hp => upd_ne fun z => (List.nodup_cons.mp nd).1 (z ▸ hp)
theorem app_mut : MutL X "list.append" appM := by
 rintro pins s σ H x vs v us Q I rx rv ⟨G, l, xs, ts, fs, ds, ts', rfl, gh, hl, ro, nd, sz, rs, hm, k⟩
 unfold appM at hm
 split at hm
 ·rename_i d
  split at hm
  ·rename_i hlt
   cases hm
   obtain ⟨w, rfl, rw_⟩ := rs.one
   refine mt_append pins s σ H _ _ v us Q I rx rv ⟨l, xs, w, rfl, rfl, hl, by rw [ro.len]; exact sz_lt hlt, k _ _ fs ?_ (List.nodup_cons.mp nd).2 (fun _ z => z) (by rw [List.length_append]; exact sz_lt hlt)⟩
   have q := (ro.frame (Same.refl _) (nd_ne (o := .lst (xs ++ [w])) nd)).append (ROs.one (RO.dd (H := upd H l (.lst (xs ++ [w]))) rw_))
   rw [List.append_nil] at q
   exact q
  ·cases hm
 ·cases hm
end
end FL
namespace FL
open PySem PySem.Spec PyProof.Rows L2
section
variable {X : Cx}
end
end FL
namespace FL
open PySem PySem.Spec PyProof.Rows L2
theorem hu65 {k : Nat} {A : Around} (r : Room k A) : A.units + 65 < cLine := by have := r.un; omega
section
variable {X : Cx}
end
end FL
namespace FL
open PySem PySem.Spec PyProof.Rows L2
section
variable {X : Cx} {W : WW} {tg e : Expr} {f : En → Res D} {pos p : Pos} {K : PySem.W.Frag} {mg : Str → Option Value}
end
end FL
namespace FL
open PySem PySem.Spec PyProof.Rows L2
def relOs (K : PySem.W.Frag) (mg : Str → Option Value) (H G' H' : Hp) (ts : List OT) (vs : List V) : Prop := ∃ fp, ROs K mg G' H' ts vs fp ∧ fp.Nodup ∧ ∀ p ∈ fp, H p = none ∧ NG G' H' p
section
variable {X : Cx} {W : WW} {e : Expr} {es : List Expr} {f : En → Res OT} {fs : En → Res (List OT)} {pos : Pos}
structure EOA (X : Cx) (W : WW) (es : List Expr) (fs : En → Res (List OT)) : Prop where
 run : ∀ B, PA X es (lift X W (relOs X.K X.mg) B fs)
def nilO (_ : En) : Res (List OT) := .ok []
def consO (f : En → Res OT) (fs : En → Res (List OT)) (ρ : En) : Res (List OT) := (f ρ).bind fun t => (fs ρ).bind fun ts => .ok (t :: ts)
theorem EOA.nil : EOA X W [] nilO := ⟨fun B => PA.mono pa_nil fun σ H Q ⟨G, ρ, r, h⟩ => h _ _ _ (Stp.refl r.gh) ⟨[], ⟨rfl, rfl⟩, List.nodup_nil, fun p hp => absurd hp (by simp)⟩⟩
theorem EOA.cons (h : EO X W e f) (h2 : EOA X W es fs) (hs : starEach (e :: es) X.env = (false, eval e X.env) :: starEach es X.env := by rfl) : EOA X W (e :: es) (consO f fs) := ⟨fun B => PA.mono (pa_cons (h.run B) (h2.run B) hs) fun σ H Q ⟨G, ρ, r, h⟩ => ⟨G, ρ, r, by
 unfold consO at h
 cases e1 : f ρ with
 | bad => rw [e1] at h; exact h.elim
 | ex c => rw [e1] at h; exact h
 | ok t =>
  rw [e1, Res.bind_ok] at h
  intro v G1 H1 s1 ⟨fp, a1, a2, a3⟩
  refine ⟨G1, ρ, r.step s1, ?_⟩
  cases e2 : fs ρ with
  | bad => rw [e2] at h; exact h.elim
  | ex c =>
   rw [e2] at h
   exact ⟨h.1, fun G2 H2 cls dd s2 q => h.2 G2 H2 cls dd (s1.trans s2) q⟩
  | ok ts =>
   rw [e2, Res.bind_ok] at h
   intro vs G2 H2 s2 ⟨fq, b1, b2, b3⟩
   refine h (v :: vs) G2 H2 (s1.trans s2) ⟨fp ++ fq, ⟨v, vs, fp, fq, rfl, rfl, a1.frame s2.gg (fun p hp => same_at s2.hh (RO.live a1 p hp)), b1⟩, List.nodup_append.mpr ⟨a2, b2, fun p hp q hq z => RO.live a1 p hp (by rw [z]; exact (b3 q hq).1)⟩, fun p hp => ?_⟩
   rcases List.mem_append.mp hp with hp | hp
   ·exact ⟨(a3 p hp).1, (s2.old p (RO.live a1 p hp)).ng (a3 p hp).2 (same_at s2.hh (RO.live a1 p hp))⟩
   ·exact ⟨s1.hh.free (b3 p hp).1, (b3 p hp).2⟩⟩⟩
def disL (fs : En → Res (List OT)) (ρ : En) : Res OT := (fs ρ).bind fun ts => if ts.length ≤ 16777216 then .ok (.lst ts) else .bad
theorem EO.disL (ha : EOA X W es fs) : EO X W (.List es pos) (disL fs) := ⟨fun B => PE.mono (pe_lst (ha.run B)) fun σ H Q ⟨G, ρ, r, h⟩ => ⟨G, ρ, r, by
 unfold FL.disL at h
 cases e2 : fs ρ with
 | bad => rw [e2] at h; exact h.elim
 | ex c => rw [e2] at h; exact h
 | ok ts =>
  rw [e2, Res.bind_ok] at h
  split at h
  ·rename_i hl
   intro vs G1 H1 s1 ⟨fp, a1, a2, a3⟩
   refine ⟨by rw [a1.len]; exact sz_le hl, fun p hp => ?_⟩
   have np : p ∉ fp := fun z => ROs.live a1 p z hp
   refine h _ G1 _ (s1.trans (Stp.own s1.gh hp)) ⟨p :: fp, ⟨p, vs, fp, rfl, rfl, sz_le hl, upd_same, a1.frame (Same.refl _) fun q hq => upd_ne fun z => np (z ▸ hq)⟩, List.nodup_cons.mpr ⟨np, a2⟩, fun q hq => ?_⟩
   rcases List.mem_cons.mp hq with rfl | hq
   ·exact ⟨s1.hh.free hp, .inl (s1.gh.free hp)⟩
   ·exact ⟨(a3 q hq).1, (a3 q hq).2.upd' hp⟩
  ·exact h.elim⟩⟩
end
end FL
namespace FL
open PySem PySem.Spec PyProof.Rows L2
section
variable {K : PySem.W.Frag} {mg : Str → Option Value} {B : Bs} {G H : Hp} {σ : L2.St} {ρ : En}
structure RepVs (K : PySem.W.Frag) (mg : Str → Option Value) (B : Bs) (G H : Hp) (σ : L2.St) (ρ : En) (ts : List OT) (vs : List V) : Prop where
 g : Gr B G H σ
 len : ρ.length = σ.length
 sl : ∃ F fv, Slots K mg B G H σ ρ F ∧ ROs K mg G H ts vs fv ∧ fv.Nodup ∧ (∀ p ∈ fv, H p ≠ none ∧ NG G H p ∧ B.O p = none) ∧ ∀ i p, p ∈ fv → p ∉ F i
theorem RepVs.nil {vs : List V} (r : RepVs K mg B G H σ ρ [] vs) : Rep K mg B G H σ ρ ∧ vs = [] := by
 obtain ⟨F, fv, f, h, _⟩ := r.sl
 exact ⟨⟨r.g, r.len, F, f⟩, h.1⟩
theorem RepVs.cons {t : OT} {ts : List OT} {ws : List V} (r : RepVs K mg B G H σ ρ (t :: ts) ws) : ∃ v vs, ws = v :: vs ∧ ∀ i, (∀ q ∈ B.io, q.1 ≠ i) → RepVs K mg B G H (σ.set i (some v)) (ρ.set i (some t)) ts vs := by
 obtain ⟨F, fv, f, ⟨v, vs, f1, f2, e1, e2, h, q⟩, nd, at_, dj⟩ := r.sl
 subst e1 e2
 obtain ⟨n1, n2, d1⟩ := List.nodup_append.mp nd
 refine ⟨v, vs, rfl, fun i hi => ?_⟩
 have r1 : RepV K mg B G H σ ρ t v := ⟨r.g, r.len, F, f1, f, h, n1, fun p hp => at_ p (List.mem_append_left _ hp), fun j p hp => dj j p (List.mem_append_left _ hp)⟩
 have r2 := r1.set hi
 refine ⟨r2.g, r2.len, fun j => if j = i then f1 else F j, f2, ⟨fun j u e => ?_, fun j => ?_, fun j p hp => ?_, fun j k p ne hp hk => ?_⟩, q, n2, fun p hp => at_ p (List.mem_append_right _ hp), fun j p hp hj => ?_⟩
 ·rcases get_set e with ⟨e1, hl, e2⟩ | ⟨ne, e⟩
  ·subst e1; cases e2
   exact ⟨v, List.getElem?_set_self (by rw [← r.len]; exact hl), by rw [if_pos rfl]; exact h⟩
  ·obtain ⟨w, a, b⟩ := f.rep j u e
   exact ⟨w, by rw [List.getElem?_set_ne ne]; exact a, by rw [if_neg (fun z => ne z.symm)]; exact b⟩
 ·(try dsimp only); split
  ·exact n1
  ·exact f.nd j
 ·(try dsimp only at hp); split at hp
  ·exact at_ p (List.mem_append_left _ hp)
  ·exact f.at_ j p hp
 ·(try dsimp only at hp hk); split at hp
  ·split at hk
   ·rename_i z1 z2
    exact ne (z1.trans z2.symm)
   ·exact dj k p (List.mem_append_left _ hp) hk
  ·split at hk
   ·exact dj j p (List.mem_append_left _ hk) hp
   ·exact f.dj j k p ne hp hk
 ·(try dsimp only at hj); split at hj
  ·exact d1 p hj p hp rfl
  ·exact dj j p (List.mem_append_right _ hp) hj
end
structure EGO (X : Cx) (vs : List Nat) (tg : Expr) (g : OT → En → Option En) : Prop where
 run : ∀ B, (∀ q ∈ B.io, q.1 ∉ vs) → PG X tg fun v σ H Q => ∃ G ρ t ρ', RepV X.K X.mg B G H σ ρ t v ∧ g t ρ = some ρ' ∧ ∀ σ', Rep X.K X.mg B G H σ' ρ' → wipe σ' vs = wipe σ vs → Q σ' H
structure EGOs (X : Cx) (vs : List Nat) (ts : List Expr) (g : List OT → En → Option En) : Prop where
 run : ∀ B, (∀ q ∈ B.io, q.1 ∉ vs) → PGs X ts fun xs σ H Q => ∃ G ρ us ρ', RepVs X.K X.mg B G H σ ρ us xs ∧ g us ρ = some ρ' ∧ ∀ σ', Rep X.K X.mg B G H σ' ρ' → wipe σ' vs = wipe σ vs → Q σ' H
def oNil (ts : List OT) (ρ : En) : Option En := match ts with
 | [] => some ρ
 | _ => none
def oCons (i : Nat) (gs : List OT → En → Option En) (ts : List OT) (ρ : En) : Option En := match ts with
 | [] => none
 | t :: ts => gs ts (ρ.set i (some t))
def oT (n : Nat) (gs : List OT → En → Option En) (t : OT) (ρ : En) : Option En := match t with
 | .tup ts => if ts.length = n then gs ts ρ else none
 | _ => none
section
variable {X : Cx} {W : WW} {io vs : List Nat} {pos : Pos} {e tg : Expr} {es : List Expr} {g : OT → En → Option En} {gs : List OT → En → Option En} {fo : En → Res OT}
theorem EGOs.nil : EGOs X vs [] oNil := ⟨fun B hio => PGs.mono pgs_nil fun v σ H Q ⟨G, ρ, us, ρ', r, e, k⟩ => by
 cases us with
 | nil => cases e; exact ⟨r.nil.2, k _ r.nil.1 rfl⟩
 | cons _ _ => cases e⟩
theorem EGOs.cons (i : Nat) {x : Str} {p : Pos} (hN : X.N.Nodup) (h2 : EGOs X vs es gs) (hv : i ∈ vs := by first | exact List.mem_cons_self | decide) (hi : X.N[i]? = some x := by rfl) (hx : Loc X.env.scope x := by first | exact .inl rfl | exact .inr rfl)
  (hf : X.fn x = true ∨ X.env.scope.names.lookup x = some .local := by first | exact .inl rfl | exact .inr rfl) (hs : (assignEach (.Name x p :: es) X.env).map (·.2) = assign (.Name x p) X.env :: (assignEach es X.env).map (·.2) := by rfl) : EGOs X vs (.Name x p :: es) (oCons i gs) := ⟨fun B hio =>
 PGs.mono (pgs_cons (pg_name hN hi hx hf) (h2.run B hio) hs) fun v σ H Q ⟨G, ρ, us, ρ', r, e, k⟩ => by
  cases us with
  | nil => cases e
  | cons t us =>
   obtain ⟨w, ws, rfl, h⟩ := r.cons
   exact ⟨w, ws, rfl, G, _, us, ρ', h i fun q hq z => hio q hq (z ▸ hv), e, fun σ2 r2 w2 => k σ2 r2 (w2.trans (wipe_set hv))⟩⟩
theorem EGO.tup {k n : Nat} (hc : X.calm = true) (h : EGOs X vs es gs) (hn : (assignEach es X.env).length = n := by rfl) (hst : (assignEach es X.env).findIdx? (·.1) = none := by rfl) : EGO X vs (.Tuple es k pos) (oT n gs) := ⟨fun B hio => PG.mono (pg_tup hc (h.run B hio) hn hst) fun v σ H Q ⟨G, ρ, t, ρ', r, e, k⟩ => by
 unfold oT at e
 split at e
 ·split at e
  ·rename_i ts hl
   obtain ⟨F, fv, f, ⟨p, ws, fs, rfl, rfl, l, hp, ro⟩, nd, at_, dj⟩ := r.sl
   exact ⟨p, ws, rfl, SqT.of hp, by rw [ro.len]; exact hl, G, ρ, ts, ρ', ⟨r.g, r.len, F, fs, f, ro, (List.nodup_cons.mp nd).2, fun q hq => at_ q (List.mem_cons_of_mem _ hq), fun j q hq => dj j q (List.mem_cons_of_mem _ hq)⟩, e, k⟩
  ·cases e
 ·cases e⟩
end
end FL
namespace FL
open PySem PySem.Spec PyProof.Rows L2
def relMs (K : PySem.W.Frag) (mg : Str → Option Value) (σ : L2.St) (G' : Hp) : List (D ⊕ Nat) → List V → Prop
 | [], vs => vs = []
 | .inl d :: ws, vs => ∃ v r, vs = v :: r ∧ R K mg G' d v ∧ relMs K mg σ G' ws r
 | .inr i :: ws, vs => ∃ v r, vs = v :: r ∧ σ[i]? = some (some v) ∧ relMs K mg σ G' ws r
theorem relMs.mono {K : PySem.W.Frag} {mg : Str → Option Value} {σ : L2.St} {G G' : Hp} (g : Same G G') : ∀ {ws : List (D ⊕ Nat)} {vs : List V}, relMs K mg σ G ws vs → relMs K mg σ G' ws vs
 | [], _, h => h
 | .inl _ :: _, _, ⟨v, r, e, h, q⟩ => ⟨v, r, e, R.mono g h, relMs.mono g q⟩
 | .inr _ :: _, _, ⟨v, r, e, h, q⟩ => ⟨v, r, e, h, relMs.mono g q⟩
theorem relMs.len {K : PySem.W.Frag} {mg : Str → Option Value} {σ : L2.St} {G : Hp} : ∀ {ws : List (D ⊕ Nat)} {vs : List V}, relMs K mg σ G ws vs → vs.length = ws.length
 | [], _, h => by rw [h]; rfl
 | .inl _ :: _, _, ⟨v, r, e, h, q⟩ => by rw [e, List.length_cons, List.length_cons, relMs.len q]
 | .inr _ :: _, _, ⟨v, r, e, h, q⟩ => by rw [e, List.length_cons, List.length_cons, relMs.len q]
def takeM : List (D ⊕ Nat) → En → Option (List OT × En)
 | [], ρ => some ([], ρ)
 | .inl d :: ws, ρ => (takeM ws ρ).map fun q => (.d d :: q.1, q.2)
 | .inr i :: ws, ρ => match ρ[i]? with
  | some (some t) => (takeM ws (ρ.set i none)).map fun q => (t :: q.1, q.2)
  | _ => none
section
variable {K : PySem.W.Frag} {mg : Str → Option Value} {B : Bs} {G H : Hp} {σ : L2.St}
theorem take_core {F : Nat → List Addr} : ∀ {ws : List (D ⊕ Nat)} {vs : List V} {ρ ρ' : En} {ts : List OT}, Slots K mg B G H σ ρ F → relMs K mg σ G ws vs → takeM ws ρ = some (ts, ρ') →
  Slots K mg B G H σ ρ' F ∧ ρ'.length = ρ.length ∧ (∀ (j : Nat) (u : OT), ρ'[j]? = some (some u) → ρ[j]? = some (some u)) ∧ ∃ fv, ROs K mg G H ts vs fv ∧ fv.Nodup ∧ ∀ p ∈ fv, ∃ j : Nat, p ∈ F j ∧ (∃ u : OT, ρ[j]? = some (some u)) ∧ ∀ u : OT, ρ'[j]? ≠ some (some u)
 | [], vs, ρ, ρ', ts, f, h, e => by
  cases e
  exact ⟨f, rfl, fun _ _ z => z, [], ⟨h, rfl⟩, List.nodup_nil, fun p hp => absurd hp (by simp)⟩
 | .inl d :: ws, vs, ρ, ρ', ts, f, ⟨v, r, e1, h, q⟩, e => by
  obtain ⟨⟨ts', ρ2⟩, e2, e3⟩ := Option.map_eq_some_iff.mp e
  cases e3
  obtain ⟨a1, a2, a3, fv, a4, a5, a6⟩ := take_core f q e2
  exact ⟨a1, a2, a3, fv, ⟨v, r, [], fv, e1, rfl, RO.dd h, a4⟩, a5, a6⟩
 | .inr i :: ws, vs, ρ, ρ', ts, f, ⟨v, r, e1, h, q⟩, e => by
  unfold takeM at e
  split at e
  ·rename_i t et
   obtain ⟨⟨ts', ρ2⟩, e2, e3⟩ := Option.map_eq_some_iff.mp e
   cases e3
   obtain ⟨a1, a2, a3, fv, a4, a5, a6⟩ := take_core (f.forget i) q e2
   obtain ⟨w, b1, b2⟩ := f.rep i t et
   rw [h] at b1
   cases b1
   have gone : ∀ u : OT, ρ2[i]? ≠ some (some u) := fun u z => by
    have := a3 i u z
    rcases get_set this with ⟨_, _, e4⟩ | ⟨ne, _⟩
    ·cases e4
    ·exact ne rfl
   refine ⟨a1, by rw [a2, List.length_set], fun j u z => ?_, F i ++ fv, ⟨v, r, F i, fv, e1, rfl, b2, a4⟩, List.nodup_append.mpr ⟨f.nd i, a5, fun p hp p2 hp2 z => ?_⟩, fun p hp => ?_⟩
   ·rcases get_set (a3 j u z) with ⟨_, _, e4⟩ | ⟨_, e4⟩
    ·cases e4
    ·exact e4
   ·subst z
    obtain ⟨j, c1, ⟨u, c2⟩, c3⟩ := a6 p hp2
    have ne : j ≠ i := fun z => by
     rcases get_set c2 with ⟨_, _, e4⟩ | ⟨ne, _⟩
     ·cases e4
     ·exact ne z.symm
    exact f.dj i j p ne.symm hp c1
   ·rcases List.mem_append.mp hp with hp | hp
    ·exact ⟨i, hp, ⟨t, et⟩, gone⟩
    ·obtain ⟨j, c1, ⟨u, c2⟩, c3⟩ := a6 p hp
     refine ⟨j, c1, ?_, c3⟩
     rcases get_set c2 with ⟨_, _, e4⟩ | ⟨_, e4⟩
     ·cases e4
     ·exact ⟨u, e4⟩
  ·cases e
open Classical in
theorem take_rep {ρ ρ' : En} {ws : List (D ⊕ Nat)} {vs : List V} {ts : List OT} (r : Rep K mg B G H σ ρ) (h : relMs K mg σ G ws vs) (e : takeM ws ρ = some (ts, ρ')) : RepVs K mg B G H σ ρ' ts vs := by
 obtain ⟨F, f⟩ := r.sl
 obtain ⟨a1, a2, a3, fv, a4, a5, a6⟩ := take_core f h e
 refine ⟨r.g, by rw [a2]; exact r.len, fun j => if ∃ u : OT, ρ'[j]? = some (some u) then F j else [], fv, ⟨fun i t ei => ?_, fun i => ?_, fun i p hp => ?_, fun i j p ne hp hk => ?_⟩, a4, a5, fun p hp => ?_, fun i p hp hi => ?_⟩
 ·obtain ⟨v, b1, b2⟩ := a1.rep i t ei
  exact ⟨v, b1, by rw [if_pos ⟨t, ei⟩]; exact b2⟩
 ·(try dsimp only); split
  ·exact f.nd i
  ·exact List.nodup_nil
 ·(try dsimp only at hp); split at hp
  ·exact f.at_ i p hp
  ·cases hp
 ·(try dsimp only at hp hk); split at hp
  ·split at hk
   ·exact f.dj i j p ne hp hk
   ·cases hk
  ·cases hp
 ·obtain ⟨j, c1, _⟩ := a6 p hp
  exact f.at_ j p c1
 ·(try dsimp only at hi); split at hi
  ·rename_i hu
   obtain ⟨u, hu⟩ := hu
   obtain ⟨j, c1, _, c3⟩ := a6 p hp
   by_cases z : i = j
   ·subst z
    exact c3 u hu
   ·exact f.dj i j p z hi c1
  ·cases hi
theorem RepVs.tup {ρ : En} {vs : List V} {ts : List OT} {p : Addr} (r : RepVs K mg B G H σ ρ ts vs) (hp : H p = none) (l : ts.length ≤ sizeLine) : RepV K mg B G (upd H p (.tup vs)) σ ρ (.tup ts) (.ref p) := by
 obtain ⟨F, fv, f, h, nd, at_, dj⟩ := r.sl
 have st : Stp G H G (upd H p (.tup vs)) := Stp.own r.g.gh hp
 have np : p ∉ fv := fun z => (at_ p z).1 hp
 have hO : B.O p = none := by
  cases e : B.O p with
  | none => rfl
  | some o =>
   have := r.g.oh p o e
   rw [hp] at this
   cases this
 refine ⟨r.g.step st, r.len, F, p :: fv, f.step st, ⟨p, vs, fv, rfl, rfl, l, upd_same, h.frame (Same.refl _) fun q hq => upd_ne fun z => np (z ▸ hq)⟩, List.nodup_cons.mpr ⟨np, nd⟩, fun q hq => ?_, fun i q hq hi => ?_⟩
 ·rcases List.mem_cons.mp hq with rfl | hq
  ·refine ⟨?_, .inl (r.g.gh.free hp), hO⟩
   rw [upd_same]
   exact fun z => nomatch z
  ·obtain ⟨c1, c2, c3⟩ := at_ q hq
   exact ⟨live_of st.hh c1, c2.mono st.hh, c3⟩
 ·rcases List.mem_cons.mp hq with rfl | hq
  ·exact (f.at_ i _ hi).1 hp
  ·exact dj i q hq hi
end
end FL
namespace FL
open PySem PySem.Spec PyProof.Rows L2
section
variable {X : Cx} {W : WW} {io : List Nat} {e : Expr} {es : List Expr} {f : En → Res D} {fs : En → Res (List (D ⊕ Nat))} {pos ppos pos2 : Pos} {x : Str}
structure EMA (X : Cx) (W : WW) (es : List Expr) (fs : En → Res (List (D ⊕ Nat))) : Prop where
 run : ∀ B, PA X es (fun σ H Q => lift X W (fun _ G' _ ws vs => relMs X.K X.mg σ G' ws vs) B fs σ H Q)
def nilM (_ : En) : Res (List (D ⊕ Nat)) := .ok []
theorem EMA.nil : EMA X W [] nilM := ⟨fun B => PA.mono pa_nil fun σ H Q ⟨G, ρ, r, h⟩ => h _ _ _ (Stp.refl r.gh) rfl⟩
end
end FL
namespace FL
open PySem PySem.Spec PyProof.Rows L2
section
variable {K : PySem.W.Frag} {mg : Str → Option Value} {B : Bs} {G H G1 G' H' : Hp} {σ σ' : L2.St} {ρ ρ' : En} {ks : List Nat} {kv : List (Nat × V)}
def KA (ks : List Nat) (F : Nat → List Addr) (p : Addr) : Prop := ∃ i, ks.contains i = true ∧ p ∈ F i
open Classical in
noncomputable def onK (ks : List Nat) (F : Nat → List Addr) (A C : Hp) : Hp := fun p => if KA ks F p then A p else C p
theorem KA.of {F : Nat → List Addr} (f : Slots K mg B G H σ ρ F) {i : Nat} {p : Addr} (hk : ks.contains i = false) (hp : p ∈ F i) : ¬KA ks F p := fun ⟨j, a, b⟩ => by
 by_cases e : j = i
 ·subst e; rw [hk] at a; cases a
 ·exact f.dj j i p e b hp
end
end FL
namespace FL
open PySem PySem.Spec PyProof.Rows L2
section
variable {K : PySem.W.Frag} {mg : Str → Option Value} {B : Bs} {G H : Hp} {σ : L2.St} {ρ : En} {s i j : Nat} {t0 tj : OT} {p : List Nat} {us : List OT}
end
section
variable {X : Cx} {W : WW} {io : List Nat} {e : Expr} {body : List Stmt} {pos ppos : Pos} {x : Str} {F : En → Flw} {fp : En → Res (List Nat)}
end
end FL
namespace FL
open PySem PySem.Spec PyProof.Rows L2
inductive ArgT where
 | own (t : OT) | lent (s : Nat) (t0 : OT) (p : List Nat)
def argT : ArgT → Option OT
 | .own t => some t
 | .lent _ t0 p => t0.sub p
def maskOf : List ArgT → List Bool
 | [] => []
 | .own _ :: as => false :: maskOf as
 | .lent _ _ _ :: as => true :: maskOf as
def argTs : List ArgT → Option (List OT)
 | [] => some []
 | a :: as => (argT a).bind fun t => (argTs as).map (t :: ·)
def pick {α : Type} : List Bool → List α → List α
 | true :: m, v :: vs => v :: pick m vs
 | false :: m, _ :: vs => pick m vs
 | _, _ => []
def lents : List ArgT → List OT → Option (List (Nat × OT))
 | [], [] => some []
 | .own _ :: as, outs => lents as outs
 | .lent s t0 p :: as, o :: outs => (lents as outs).map ((s, t0.put p o) :: ·)
 | _, _ => none
def setAll : List (Nat × OT) → En → En
 | [], ρ => ρ
 | q :: l, ρ => setAll l (ρ.set q.1 (some q.2))
theorem setAll_len : ∀ (l : List (Nat × OT)) (ρ : En), (setAll l ρ).length = ρ.length
 | [], _ => rfl
 | q :: l, ρ => by rw [setAll, setAll_len, List.length_set]
section
variable (K : PySem.W.Frag) (mg : Str → Option Value)
def RA1 (G H : Hp) (σ : L2.St) : ArgT → V → List Addr → Prop
 | .own t, v, fp => RO K mg G H t v fp
 | .lent s t0 p, v, fp => ∃ v0 u, σ[s]? = some (some v0) ∧ RO K mg G H t0 v0 fp ∧ t0.sub p = some u ∧ walkV H v0 p = some v
def RAs (G H : Hp) (σ : L2.St) : List ArgT → List V → List Addr → Prop
 | [], vs, fp => vs = [] ∧ fp = []
 | a :: as, vs, fp => ∃ v r f1 f2, vs = v :: r ∧ fp = f1 ++ f2 ∧ RA1 K mg G H σ a v f1 ∧ RAs G H σ as r f2
def LB (G H : Hp) (σ : L2.St) : List (Nat × OT) → List Addr → Prop
 | [], fp => fp = []
 | q :: l, fp => ∃ v0 f1 f2, fp = f1 ++ f2 ∧ σ[q.1]? = some (some v0) ∧ RO K mg G H q.2 v0 f1 ∧ LB G H σ l f2
structure RepA (B : Bs) (G H : Hp) (σ : L2.St) (ρ : En) (as : List ArgT) (vs : List V) : Prop where
 g : Gr B G H σ
 len : ρ.length = σ.length
 sl : ∃ F fv, Slots K mg B G H σ ρ F ∧ RAs K mg G H σ as vs fv ∧ fv.Nodup ∧ (∀ p ∈ fv, H p ≠ none ∧ NG G H p ∧ B.O p = none) ∧ ∀ i p, p ∈ fv → p ∉ F i
end
section
variable {K : PySem.W.Frag} {mg : Str → Option Value} {B : Bs} {G H G' H' : Hp} {σ σ' : L2.St} {ρ ρ' : En}
theorem RA1.frame {a : ArgT} {v : V} {fp : List Addr} (gh : Same G H) (gh2 : Same G' H') (g : Same G G') (h : RA1 K mg G H σ a v fp) (f : ∀ p ∈ fp, H' p = H p) : RA1 K mg G' H' σ a v fp := by
 cases a with
 | own t => exact RO.frame g f h
 | lent s t0 p =>
  obtain ⟨v0, u, h1, h2, h3, h4⟩ := h
  refine ⟨v0, u, h1, RO.frame g f h2, h3, ?_⟩
  obtain ⟨v', g1, f', g2, a1, a2, a3, a4⟩ := h2.ctx gh h3
  rw [h4] at a1
  cases a1
  exact (a4 G' H' u f' g gh2 (fun x hx => f x (by rw [a2]; rcases hx with hx | hx <;> simp [hx])) (a3.frame g fun x hx => f x (by rw [a2]; simp [hx]))).1
theorem RAs.frame (gh : Same G H) (gh2 : Same G' H') (g : Same G G') : ∀ {as : List ArgT} {vs : List V} {fp : List Addr}, RAs K mg G H σ as vs fp → (∀ p ∈ fp, H' p = H p) → RAs K mg G' H' σ as vs fp
 | [], _, _, h, _ => h
 | _ :: _, _, _, ⟨v, r, f1, f2, e1, e2, h, q⟩, f => ⟨v, r, f1, f2, e1, e2, h.frame gh gh2 g fun p hp => f p (by rw [e2]; simp [hp]), RAs.frame gh gh2 g q fun p hp => f p (by rw [e2]; simp [hp])⟩
theorem RA1.live {a : ArgT} {v : V} {fp : List Addr} (h : RA1 K mg G H σ a v fp) : ∀ p ∈ fp, H p ≠ none := by
 cases a with
 | own t => exact RO.live h
 | lent s t0 p =>
  obtain ⟨v0, u, h1, h2, h3, h4⟩ := h
  exact h2.live
def holdO (B : Bs) (H : Hp) (fv : List Addr) : Hp := fun p => if p ∈ fv then H p else B.O p
def holdB (B : Bs) (G H : Hp) (fv : List Addr) : Bs := ⟨holdO B H fv, G, B.io⟩
theorem holdO_in {fv : List Addr} {p : Addr} (h : p ∈ fv) : holdO B H fv p = H p := if_pos h
theorem holdO_out {fv : List Addr} {p : Addr} (h : p ∉ fv) : holdO B H fv p = B.O p := if_neg h
theorem Slots.hold {F : Nat → List Addr} {fv : List Addr} (g : Gr B G H σ) (f : Slots K mg B G H σ ρ F) (dj : ∀ i p, p ∈ fv → p ∉ F i) : Gr (holdB B G H fv) G H σ ∧ Slots K mg (holdB B G H fv) G H σ ρ F := by
 refine ⟨⟨g.gh, fun p o h => ?_, Same.refl _, fun _ _ => .refl, g.io⟩, ⟨f.rep, f.nd, fun i p hp => ?_, f.dj⟩⟩
 ·by_cases m : p ∈ fv
  ·exact (holdO_in (B := B) (H := H) m).symm.trans h
  ·exact g.oh p o ((holdO_out (B := B) (H := H) m).symm.trans h)
 ·obtain ⟨a, b, c⟩ := f.at_ i p hp
  exact ⟨a, b, (holdO_out (B := B) (H := H) fun m => dj i p m hp).trans c⟩
theorem Gr.unhold {fv : List Addr} (g : Gr B G H σ) (at_ : ∀ p ∈ fv, H p ≠ none ∧ NG G H p ∧ B.O p = none) (g' : Gr (holdB B G H fv) G' H' σ') : Gr B G' H' σ' ∧ Same G G' ∧ ∀ p ∈ fv, H' p = H p ∧ NG G' H' p := by
 refine ⟨⟨g'.gh, fun p o h => g'.oh p o ?_, g.g0.trans g'.g0, fun p h => ?_, g'.io⟩, g'.g0, fun p m => ?_⟩
 ·exact (holdO_out fun m => by rw [(at_ p m).2.2] at h; cases h).trans h
 ·have m : p ∉ fv := fun m => h (at_ p m).2.2
  have e : (holdB B G H fv).O p = B.O p := holdO_out m
  exact ((g'.og p (by rw [e]; exact h)).at e.symm).trans (g.og p h)
 ·have e : (holdB B G H fv).O p = H p := holdO_in m
  have n : (holdB B G H fv).O p ≠ none := by rw [e]; exact (at_ p m).1
  exact ⟨(same_at g'.oh n).trans e, ((g'.og p n).at e.symm).ng (at_ p m).2.1 ((same_at g'.oh n).trans e)⟩
theorem Slots.unhold {F' : Nat → List Addr} {fv : List Addr} (at_ : ∀ p ∈ fv, H p ≠ none ∧ NG G H p ∧ B.O p = none) (f' : Slots K mg (holdB B G H fv) G' H' σ' ρ' F') : Slots K mg B G' H' σ' ρ' F' ∧ ∀ i p, p ∈ F' i → p ∉ fv := by
 have n : ∀ i p, p ∈ F' i → p ∉ fv := fun i p hp m => by
  have := (f'.at_ i p hp).2.2
  rw [show (holdB B G H fv).O p = H p from holdO_in m] at this
  exact (at_ p m).1 this
 exact ⟨⟨f'.rep, f'.nd, fun i p hp => ⟨(f'.at_ i p hp).1, (f'.at_ i p hp).2.1, (holdO_out (n i p hp)).symm.trans (f'.at_ i p hp).2.2⟩, f'.dj⟩, n⟩
theorem Rep.unhold {fv : List Addr} (g : Gr B G H σ) (at_ : ∀ p ∈ fv, H p ≠ none ∧ NG G H p ∧ B.O p = none) (r : Rep K mg (holdB B G H fv) G' H' σ' ρ') : Rep K mg B G' H' σ' ρ' := by
 obtain ⟨F', f'⟩ := r.sl
 exact ⟨(g.unhold at_ r.g).1, r.len, F', (f'.unhold at_).1⟩
theorem RepA.cons {F : Nat → List Addr} {fv : List Addr} {a : ArgT} {v : V} {as : List ArgT} {vs : List V} (g : Gr B G H σ) (at_ : ∀ p ∈ fv, H p ≠ none ∧ NG G H p ∧ B.O p = none) (nd : fv.Nodup) (ha : RA1 K mg G H σ a v fv) (r : RepA K mg (holdB B G H fv) G' H' σ ρ' as vs) : RepA K mg B G' H' σ ρ' (a :: as) (v :: vs) := by
 obtain ⟨F', fw, f', h, nd', at', dj'⟩ := r.sl
 obtain ⟨g2, gg, kk⟩ := g.unhold at_ r.g
 obtain ⟨f2, n2⟩ := f'.unhold at_
 have nw : ∀ p ∈ fw, p ∉ fv ∧ B.O p = none := fun p hp => by
  have := (at' p hp).2.2
  by_cases m : p ∈ fv
  ·rw [show (holdB B G H fv).O p = H p from holdO_in m] at this
   exact absurd this (at_ p m).1
  ·exact ⟨m, (holdO_out m).symm.trans this⟩
 refine ⟨g2, r.len, F', fv ++ fw, f2, ⟨v, vs, fv, fw, rfl, rfl, ha.frame g.gh r.g.gh gg fun p hp => (kk p hp).1, h⟩, List.nodup_append.mpr ⟨nd, nd', fun x hx y hy z => (nw y hy).1 (z ▸ hx)⟩, fun p hp => ?_, fun i p hp hi => ?_⟩
 ·rcases List.mem_append.mp hp with hp | hp
  ·exact ⟨by rw [(kk p hp).1]; exact (at_ p hp).1, (kk p hp).2, (at_ p hp).2.2⟩
  ·exact ⟨(at' p hp).1, (at' p hp).2.1, (nw p hp).2⟩
 ·rcases List.mem_append.mp hp with hp | hp
  ·exact n2 i p hi hp
  ·exact dj' i p hp hi
theorem RAs.split (gh : Same G H) : ∀ {as : List ArgT} {vs : List V} {fp : List Addr} {ts : List OT}, RAs K mg G H σ as vs fp → fp.Nodup → argTs as = some ts → ∃ cf, ROs K mg G H ts vs cf ∧ cf.Sublist fp ∧
  ∀ G' H' outs l fo, Same G G' → Same G' H' → (∀ x ∈ fp, x ∉ cf → H' x = H x) → ROs K mg G' H' outs (pick (maskOf as) vs) fo → fo.Nodup → (∀ x ∈ fo, x ∈ cf ∨ x ∉ fp) → lents as outs = some l → ∃ fb, LB K mg G' H' σ l fb ∧ fb.Nodup ∧ ∀ x ∈ fb, x ∈ fo ∨ (x ∈ fp ∧ x ∉ cf)
 | [], vs, fp, ts, ⟨e1, e2⟩, nd, e => by
  cases e
  subst e1 e2
  refine ⟨[], ⟨rfl, rfl⟩, List.Sublist.refl _, fun G' H' outs l fo gg gh2 k ro n m e => ?_⟩
  cases outs with
  | nil => cases e; exact ⟨[], rfl, List.nodup_nil, fun x hx => absurd hx (by simp)⟩
  | cons _ _ => cases e
 | a :: as, vs, fp, ts, ⟨v, r, f1, f2, e1, e2, h, q⟩, nd, e => by
  subst e1 e2
  obtain ⟨n1, n2, d12⟩ := List.nodup_append.mp nd
  unfold argTs at e
  obtain ⟨t, et, e⟩ := Option.bind_eq_some_iff.mp e
  obtain ⟨ts', ets, rfl⟩ := Option.map_eq_some_iff.mp e
  obtain ⟨cf, c1, c2, c3⟩ := RAs.split gh q n2 ets
  cases a with
  | own t0 =>
   cases et
   refine ⟨f1 ++ cf, ⟨v, r, f1, cf, rfl, rfl, h, c1⟩, List.Sublist.append (List.Sublist.refl _) c2, fun G' H' outs l fo gg gh2 k ro n m e => ?_⟩
   obtain ⟨fb, b1, b2, b3⟩ := c3 G' H' outs l fo gg gh2 (fun x hx nx => k x (by simp [hx]) (by simp [nx]; exact fun z => d12 x z x hx rfl)) ro n (fun x hx => by
    rcases m x hx with m | m
    ·rcases List.mem_append.mp m with m | m
     ·exact .inr fun z => d12 x m x z rfl
     ·exact .inl m
    ·exact .inr fun z => m (by simp [z])) e
   refine ⟨fb, b1, b2, fun x hx => ?_⟩
   rcases b3 x hx with z | ⟨z1, z2⟩
   ·exact .inl z
   ·exact .inr ⟨by simp [z1], by simp [z2]; exact fun z => d12 x z x z1 rfl⟩
  | lent s t0 p =>
   obtain ⟨v0, u, h1, h2, h3, h4⟩ := h
   rw [show argT (.lent s t0 p) = t0.sub p from rfl, h3] at et
   cases et
   obtain ⟨v', g1, f', g2, a1, a2, a3, a4⟩ := h2.ctx gh h3
   rw [h4] at a1
   cases a1
   subst a2
   obtain ⟨m1, m2, e12⟩ := List.nodup_append.mp n1
   obtain ⟨m3, m4, e34⟩ := List.nodup_append.mp m2
   refine ⟨f' ++ cf, ⟨v, r, f', cf, rfl, rfl, a3, c1⟩, List.Sublist.append ((List.sublist_append_left f' g2).trans (List.sublist_append_right g1 _)) c2, fun G' H' outs l fo gg gh2 k ro n m e => ?_⟩
   cases outs with
   | nil => cases e
   | cons o outs =>
    unfold lents at e
    obtain ⟨l', el, rfl⟩ := Option.map_eq_some_iff.mp e
    obtain ⟨w, r', fo1, fo2, ew, rfl, ro1, ro2⟩ := ro
    cases ew
    obtain ⟨p1, p2, p12⟩ := List.nodup_append.mp n
    have ing1 : ∀ x, x ∈ g1 ∨ x ∈ g2 → x ∉ f' ++ cf := fun x hx z => by
     rcases List.mem_append.mp z with z | z
     ·rcases hx with hx | hx
      ·exact e12 x hx x (by simp [z]) rfl
      ·exact e34 x z x hx rfl
     ·exact d12 x (by rcases hx with hx | hx <;> simp [hx]) x (c2.subset z) rfl
    obtain ⟨fb, b1, b2, b3⟩ := c3 G' H' outs l' fo2 gg gh2 (fun x hx nx => k x (by simp [hx]) fun z => by
     rcases List.mem_append.mp z with z | z
     ·exact d12 x (by simp [z]) x hx rfl
     ·exact nx z) ro2 p2 (fun x hx => by
      rcases m x (by simp [hx]) with m | m
      ·rcases List.mem_append.mp m with m | m
       ·exact .inr fun z => d12 x (by simp [m]) x z rfl
       ·exact .inl m
      ·exact .inr fun z => m (by simp [z])) el
    have q1 := (a4 G' H' o fo1 gg gh2 (fun x hx => k x (by rcases hx with hx | hx <;> simp [hx]) (ing1 x hx)) ro1).2
    have fo1n : ∀ x ∈ fo1, x ∉ g1 ∧ x ∉ g2 := fun x hx => by
     rcases m x (by simp [hx]) with m | m
     ·exact ⟨fun z => ing1 x (.inl z) m, fun z => ing1 x (.inr z) m⟩
     ·exact ⟨fun z => m (by simp [z]), fun z => m (by simp [z])⟩
    refine ⟨(g1 ++ (fo1 ++ g2)) ++ fb, ⟨v0, _, fb, rfl, h1, q1, b1⟩, List.nodup_append.mpr ⟨List.nodup_append.mpr ⟨m1, List.nodup_append.mpr ⟨p1, m4, fun x hx y hy z => (fo1n x hx).2 (z ▸ hy)⟩, fun x hx y hy z => ?_⟩, b2, fun x hx y hy z => ?_⟩, fun x hx => ?_⟩
    ·rcases List.mem_append.mp hy with hy | hy
     ·exact (fo1n y hy).1 (z ▸ hx)
     ·exact e12 x hx y (by simp [hy]) z
    ·subst z
     rcases b3 x hy with b | ⟨b, b'⟩
     ·rcases List.mem_append.mp hx with hx | hx
      ·rcases m x (by simp [b]) with m | m
       ·exact ing1 x (.inl hx) m
       ·exact m (by simp [hx])
      ·rcases List.mem_append.mp hx with hx | hx
       ·exact p12 x hx x b rfl
       ·rcases m x (by simp [b]) with m | m
        ·exact ing1 x (.inr hx) m
        ·exact m (by simp [hx])
     ·rcases List.mem_append.mp hx with hx | hx
      ·exact d12 x (by simp [hx]) x b rfl
      ·rcases List.mem_append.mp hx with hx | hx
       ·rcases m x (by simp [hx]) with m | m
        ·rcases List.mem_append.mp m with m | m
         ·exact d12 x (by simp [m]) x b rfl
         ·exact b' m
        ·exact m (by simp [b])
       ·exact d12 x (by simp [hx]) x b rfl
    ·rcases List.mem_append.mp hx with hx | hx
     ·rcases List.mem_append.mp hx with hx | hx
      ·exact .inr ⟨by simp [hx], ing1 x (.inl hx)⟩
      ·rcases List.mem_append.mp hx with hx | hx
       ·exact .inl (by simp [hx])
       ·exact .inr ⟨by simp [hx], ing1 x (.inr hx)⟩
     ·rcases b3 x hx with b | ⟨b, b'⟩
      ·exact .inl (by simp [b])
      ·refine .inr ⟨by simp [b], fun z => ?_⟩
       rcases List.mem_append.mp z with z | z
       ·exact d12 x (by simp [z]) x b rfl
       ·exact b' z
theorem Slots.setAll : ∀ {l : List (Nat × OT)} {ρ : En} {F : Nat → List Addr} {fb : List Addr}, Slots K mg B G H σ ρ F → LB K mg G H σ l fb → fb.Nodup → (∀ x ∈ fb, H x ≠ none ∧ NG G H x ∧ B.O x = none) → (∀ i x, x ∈ fb → x ∉ F i) →
  ∃ F', Slots K mg B G H σ (FL.setAll l ρ) F' ∧ ∀ i x, x ∈ F' i → x ∈ F i ∨ x ∈ fb
 | [], ρ, F, fb, f, h, nd, at_, dj => ⟨F, f, fun i x hx => .inl hx⟩
 | (s, t) :: l, ρ, F, fb, f, ⟨v0, f1, f2, e, hs, ro, q⟩, nd, at_, dj => by
  subst e
  obtain ⟨n1, n2, d12⟩ := List.nodup_append.mp nd
  have fs : Slots K mg B G H σ (ρ.set s (some t)) (fun j => if j = s then f1 else F j) := by
   refine ⟨fun i u e => ?_, fun i => ?_, fun i p hp => ?_, fun i j p ne hp hq => ?_⟩
   ·rcases get_set e with ⟨e1, hl, e2⟩ | ⟨ne, e⟩
    ·subst e1; cases e2
     exact ⟨v0, hs, by rw [if_pos rfl]; exact ro⟩
    ·obtain ⟨w, a, b⟩ := f.rep i u e
     exact ⟨w, a, by rw [if_neg (fun z => ne z.symm)]; exact b⟩
   ·(try dsimp only); split
    ·exact n1
    ·exact f.nd i
   ·(try dsimp only at hp); split at hp
    ·exact at_ p (by simp [hp])
    ·exact f.at_ i p hp
   ·(try dsimp only at hp hq)
    split at hp
    ·split at hq
     ·rename_i z1 z2; exact ne (z1.trans z2.symm)
     ·exact dj j p (by simp [hp]) hq
    ·split at hq
     ·exact dj i p (by simp [hq]) hp
     ·exact f.dj i j p ne hp hq
  obtain ⟨F', a, b⟩ := fs.setAll q n2 (fun x hx => at_ x (by simp [hx])) (fun i x hx hi => by
   (try dsimp only at hi); split at hi
   ·exact d12 x hi x hx rfl
   ·exact dj i x (by simp [hx]) hi)
  refine ⟨F', a, fun i x hx => ?_⟩
  rcases b i x hx with z | z
  ·(try dsimp only at z); split at z
   ·exact .inr (by simp [z])
   ·exact .inl z
  ·exact .inr (by simp [z])
theorem RepA.back {as : List ArgT} {vs : List V} {ts : List OT} (r : RepA K mg B G H σ ρ as vs) (ht : argTs as = some ts) : ∃ cf, ROs K mg G H ts vs cf ∧ cf.Nodup ∧ (∀ p ∈ cf, NG G H p) ∧
  ∀ G' H' outs l fo, Same (outer H cf) H' → Same G G' → Same G' H' → (∀ p, H p ≠ none → p ∉ cf → KG G' G H p) → ROs K mg G' H' outs (pick (maskOf as) vs) fo → fo.Nodup → (∀ p ∈ fo, NG G' H' p ∧ (H p = none ∨ p ∈ cf)) → lents as outs = some l →
   Rep K mg B G' H' σ (FL.setAll l ρ) ∧ ∀ t v fr, RO K mg G' H' t v fr → (fr ++ fo).Nodup → (∀ p ∈ fr, NG G' H' p ∧ (H p = none ∨ p ∈ cf)) → RepV K mg B G' H' σ (FL.setAll l ρ) t v := by
 obtain ⟨F, fv, f, ra, nd, at_, dj⟩ := r.sl
 obtain ⟨cf, c1, c2, c3⟩ := ra.split r.g.gh nd ht
 refine ⟨cf, c1, nd.sublist c2, fun p hp => (at_ p (c2.subset hp)).2.1, fun G' H' outs l fo o1 o2 o3 o4 ro ndo ato hl => ?_⟩
 have keep : ∀ p, H p ≠ none → p ∉ cf → H' p = H p := fun p hp np => by
  cases e : H p with
  | none => exact absurd e hp
  | some o => exact o1 p o (by unfold outer; rw [if_neg np]; exact e)
 have gr : Gr B G' H' σ := by
  refine ⟨o3, fun p o h => ?_, r.g.g0.trans o2, fun p h => ?_, r.g.io⟩
  ·have hp := r.g.oh p o h
   have np : p ∉ cf := fun z => by rw [(at_ p (c2.subset z)).2.2] at h; cases h
   rw [keep p (by rw [hp]; exact fun z => nomatch z) np]; exact hp
  ·have np : p ∉ cf := fun z => h (at_ p (c2.subset z)).2.2
   have hp : H p ≠ none := by rw [same_at r.g.oh h]; exact h
   exact ((o4 p hp np).at (same_at r.g.oh h).symm).trans (r.g.og p h)
 have fF : ∀ i p, p ∈ F i → p ∉ cf := fun i p hp z => dj i p (c2.subset z) hp
 have f2 : Slots K mg B G' H' σ ρ F := ⟨fun i t e => by
   obtain ⟨v, a, b⟩ := f.rep i t e
   exact ⟨v, a, b.frame o2 fun p hp => keep p (f.at_ i p hp).1 (fF i p hp)⟩, f.nd, fun i p hp => by
   obtain ⟨a, b, c⟩ := f.at_ i p hp
   exact ⟨by rw [keep p a (fF i p hp)]; exact a, (o4 p a (fF i p hp)).ng b (keep p a (fF i p hp)), c⟩, f.dj⟩
 obtain ⟨fb, b1, b2, b3⟩ := c3 G' H' outs l fo o2 o3 (fun x hx nx => keep x (at_ x hx).1 nx) ro ndo (fun x hx => by
  rcases (ato x hx).2 with z | z
  ·exact .inr fun m => (at_ x m).1 z
  ·exact .inl z) hl
 have OF : ∀ p, (H p = none ∨ p ∈ cf) → B.O p = none := fun p h => by
  rcases h with z | z
  ·exact r.g.oh.free z
  ·exact (at_ p (c2.subset z)).2.2
 have nF : ∀ i p, (H p = none ∨ p ∈ cf) → p ∉ F i := fun i p h hp => by
  rcases h with z | z
  ·exact (f.at_ i p hp).1 z
  ·exact fF i p hp z
 have atb : ∀ x ∈ fb, H' x ≠ none ∧ NG G' H' x ∧ B.O x = none := fun x hx => by
  rcases b3 x hx with z | ⟨z1, z2⟩
  ·exact ⟨ROs.live ro x z, (ato x z).1, OF x (ato x z).2⟩
  ·obtain ⟨a, b, c⟩ := at_ x z1
   exact ⟨by rw [keep x a z2]; exact a, (o4 x a z2).ng b (keep x a z2), c⟩
 have djb : ∀ i x, x ∈ fb → x ∉ F i := fun i x hx => by
  rcases b3 x hx with z | ⟨z1, z2⟩
  ·exact nF i x (ato x z).2
  ·exact dj i x z1
 obtain ⟨F', f3, f4⟩ := f2.setAll b1 b2 atb djb
 refine ⟨⟨gr, by rw [setAll_len]; exact r.len, F', f3⟩, fun t v fr rt ndr atr => ⟨gr, by rw [setAll_len]; exact r.len, F', fr, f3, rt, (List.nodup_append.mp ndr).1, fun p hp => ⟨RO.live rt p hp, (atr p hp).1, OF p (atr p hp).2⟩, fun i p hp hi => ?_⟩⟩
 rcases f4 i p hi with z | z
 ·exact nF i p (atr p hp).2 z
 ·rcases b3 p z with z | ⟨z1, z2⟩
  ·exact (List.nodup_append.mp ndr).2.2 p hp p z rfl
  ·rcases (atr p hp).2 with y | y
   ·exact (at_ p z1).1 y
   ·exact z2 y
end
inductive ResA where
 | ok (as : List ArgT) (ρ : En) | ex (c : Exn) (ρ : En) | bad
def WrA (X : Cx) (W : WW) (B : Bs) (σ : L2.St) (r : ResA) (Q : List V → Hp → Prop) : Prop := match r with
 | .ok as ρ => ∀ vs G' H', RepA X.K X.mg B G' H' σ ρ as vs → Q vs H'
 | .ex c ρ => W.on ∧ ∀ G' H' cls dd, Rep X.K X.mg B G' H' σ ρ → RX X.K X.mg G' H' c cls dd → W.w cls dd σ H'
 | .bad => False
structure EXA (X : Cx) (W : WW) (es : List Expr) (f : En → ResA) : Prop where
 run : ∀ B, PA X es fun σ H Q => ∃ G ρ, Rep X.K X.mg B G H σ ρ ∧ WrA X W B σ (f ρ) Q
def nilX (ρ : En) : ResA := .ok [] ρ
def tailX (a : ArgT) : ResA → ResA
 | .ok as ρ => .ok (a :: as) ρ
 | .ex c ρ => .ex c ρ
 | .bad => .bad
def consX (f : En → ResX) (fs : En → ResA) (ρ : En) : ResA := match f ρ with
 | .ok t ρ1 => tailX (.own t) (fs ρ1)
 | .ex c ρ1 => .ex c ρ1
 | .bad => .bad
def lendX (s : Nat) (f : En → Res (List Nat)) (fs : En → ResA) (ρ : En) : ResA := match f ρ with
 | .ok p => match ρ[s]? with
  | some (some t0) => match t0.sub p with
   | some _ => tailX (.lent s t0 p) (fs (ρ.set s none))
   | none => .bad
  | _ => .bad
 | .ex c => .ex c ρ
 | .bad => .bad
section
variable {X : Cx} {W : WW} {e : Expr} {es : List Expr} {f : En → ResX} {fp : En → Res (List Nat)} {fs : En → ResA} {fd : En → Res D} {fo : En → Res OT}
theorem EXA.nil : EXA X W [] nilX := ⟨fun B => PA.mono pa_nil fun σ H Q ⟨G, ρ, r, h⟩ => by
 obtain ⟨F, f⟩ := r.sl
 exact h [] G H ⟨r.g, r.len, F, [], f, ⟨rfl, rfl⟩, List.nodup_nil, fun p hp => absurd hp (by simp), fun i p hp => absurd hp (by simp)⟩⟩
theorem tail_next {B : Bs} {G H : Hp} {σ : L2.St} {ρ : En} {a : ArgT} {v : V} {F : Nat → List Addr} {fv : List Addr} {Q : List V → Hp → Prop} (g : Gr B G H σ) (len : ρ.length = σ.length) (f : Slots X.K X.mg B G H σ ρ F) (ha : RA1 X.K X.mg G H σ a v fv) (nd : fv.Nodup) (at_ : ∀ p ∈ fv, H p ≠ none ∧ NG G H p ∧ B.O p = none) (dj : ∀ i p, p ∈ fv → p ∉ F i)
  (h : WrA X W B σ (tailX a (fs ρ)) Q) : Rep X.K X.mg (holdB B G H fv) G H σ ρ ∧ WrA X W (holdB B G H fv) σ (fs ρ) fun vs H' => Q (v :: vs) H' := by
 obtain ⟨g1, f1⟩ := f.hold g dj
 refine ⟨⟨g1, len, F, f1⟩, ?_⟩
 cases e : fs ρ with
 | bad => rw [e] at h; exact h
 | ok as ρ' =>
  rw [e] at h
  exact fun vs G' H' r => h (v :: vs) G' H' (RepA.cons (F := F) g at_ nd ha r)
 | ex c ρ' =>
  rw [e] at h
  exact ⟨h.1, fun G' H' cls dd r q => h.2 G' H' cls dd (r.unhold g at_) q⟩
theorem EXA.cons (h : EX X W e f) (h2 : EXA X W es fs) (hs : starEach (e :: es) X.env = (false, eval e X.env) :: starEach es X.env := by rfl) : EXA X W (e :: es) (consX f fs) := ⟨fun B => by
 refine ⟨fun pos pins s σ H Q I ⟨G, ρ, r, w⟩ => ?_⟩
 refine (pa_cons (h.run B) (t := fun σ H Q => ∃ B, ∃ G ρ, Rep X.K X.mg B G H σ ρ ∧ WrA X W B σ (fs ρ) Q) ⟨fun pos pins s σ H Q I ⟨B', q⟩ => (h2.run B').run pos pins s σ H Q I q⟩ hs).run pos pins s σ H Q I ⟨G, ρ, r, ?_⟩
 unfold consX at w
 cases e1 : f ρ with
 | bad => rw [e1] at w; exact w
 | ex c ρ1 => rw [e1] at w; exact w
 | ok t ρ1 =>
  rw [e1] at w
  intro v G1 H1 r1
  obtain ⟨F, fv, f1, ro, nd, at_, dj⟩ := r1.sl
  exact ⟨holdB B G1 H1 fv, G1, ρ1, tail_next (a := .own t) r1.g r1.len f1 ro nd at_ dj w⟩⟩
theorem EXA.lend (s : Nat) (h : EP X W s e fp) (h2 : EXA X W es fs) (hs : starEach (e :: es) X.env = (false, eval e X.env) :: starEach es X.env := by rfl) : EXA X W (e :: es) (lendX s fp fs) := ⟨fun B => by
 refine ⟨fun pos pins s' σ H Q I ⟨G, ρ, r, w⟩ => ?_⟩
 refine (pa_cons (h.run B) (t := fun σ H Q => ∃ B, ∃ G ρ, Rep X.K X.mg B G H σ ρ ∧ WrA X W B σ (fs ρ) Q) ⟨fun pos pins s σ H Q I ⟨B', q⟩ => (h2.run B').run pos pins s σ H Q I q⟩ hs).run pos pins s' σ H Q I ⟨G, ρ, r, ?_⟩
 unfold lendX at w
 cases e1 : fp ρ with
 | bad => rw [e1] at w; exact w
 | ex c =>
  rw [e1] at w
  exact ⟨w.1, fun G' H' cls dd s q => w.2 G' H' cls dd (r.step s) q⟩
 | ok p =>
  rw [e1] at w
  intro v G1 H1 s1 ⟨v0, q1, q2⟩
  have r1 := r.step s1
  (try dsimp only at w)
  split at w
  ·rename_i t0 et
   split at w
   ·rename_i u eu
    obtain ⟨F, f1⟩ := r1.sl
    obtain ⟨v1, a1, a2⟩ := f1.rep s t0 et
    rw [q1] at a1
    cases a1
    have f2 : Slots X.K X.mg B G1 H1 σ (ρ.set s none) (fun j => if j = s then [] else F j) := by
     refine ⟨fun i u e => ?_, fun i => ?_, fun i p hp => ?_, fun i j p ne hp hq => ?_⟩
     ·rcases get_set e with ⟨_, _, e2⟩ | ⟨ne, e⟩
      ·cases e2
      ·obtain ⟨w, a, b⟩ := f1.rep i u e
       exact ⟨w, a, by rw [if_neg (fun z => ne z.symm)]; exact b⟩
     ·(try dsimp only); split
      ·exact List.nodup_nil
      ·exact f1.nd i
     ·(try dsimp only at hp); split at hp
      ·cases hp
      ·exact f1.at_ i p hp
     ·(try dsimp only at hp hq)
      split at hp
      ·cases hp
      ·split at hq
       ·cases hq
       ·exact f1.dj i j p ne hp hq
    refine ⟨holdB B G1 H1 (F s), G1, _, tail_next (a := .lent s t0 p) (v := v) r1.g (by rw [List.length_set]; exact r1.len) f2 ⟨v0, u, q1, a2, eu, q2⟩ (f1.nd s) (f1.at_ s) (fun i x hx hi => ?_) w⟩
    (try dsimp only at hi); split at hi
    ·cases hi
    ·rename_i ne; exact f1.dj i s x ne hi hx
   ·exact w.elim
  ·exact w.elim⟩
def xF (f : En → Res D) (ρ : En) : ResX := match f ρ with
 | .ok d => .ok (.d d) ρ
 | .ex c => .ex c ρ
 | .bad => .bad
def xO (f : En → Res OT) (ρ : En) : ResX := match f ρ with
 | .ok t => .ok t ρ
 | .ex c => .ex c ρ
 | .bad => .bad
theorem EX.ofF (h : EF X W e fd) : EX X W e (xF fd) := ⟨fun B => PE.mono (h.run B) fun σ H Q ⟨G, ρ, r, w⟩ => ⟨G, ρ, r, by
 unfold xF at w
 cases e1 : fd ρ with
 | bad => rw [e1] at w; exact w
 | ex c => rw [e1] at w; exact ⟨w.1, fun G' H' cls dd s q => w.2 G' H' cls dd (r.step s) q⟩
 | ok d => rw [e1] at w; exact fun v G' H' s q => w v G' H' ((r.step s).val q)⟩⟩
theorem EX.ofO (h : EO X W e fo) : EX X W e (xO fo) := ⟨fun B => PE.mono (h.run B) fun σ H Q ⟨G, ρ, r, w⟩ => ⟨G, ρ, r, by
 unfold xO at w
 cases e1 : fo ρ with
 | bad => rw [e1] at w; exact w
 | ex c => rw [e1] at w; exact ⟨w.1, fun G' H' cls dd s q => w.2 G' H' cls dd (r.step s) q⟩
 | ok t => rw [e1] at w; exact fun v G' H' s ⟨fp, q1, q2, q3⟩ => w v G' H' (r.fresh s q1 q2 q3)⟩⟩
def mvX (i : Nat) (ρ : En) : ResX := match ρ[i]? with
 | some (some t) => .ok t (ρ.set i none)
 | _ => .bad
theorem EX.mv (i : Nat) {x : Str} {ppos : Pos} (hN : X.N[i]? = some x := by rfl) (hv : Vis X.env.scope x := by first | exact Or.inl rfl | exact Or.inr (Or.inl rfl) | exact Or.inr (Or.inr rfl)) (hd : (x == ("__debug__" : Str)) = false := by decide) (hcd : (x == ("__classdict__" : Str)) = false := by decide) : EX X W (.Name x ppos) (mvX i) := ⟨fun B =>
 PE.mono (pe_var (i := i) hN hv hd hcd) fun σ H Q ⟨G, ρ, r, h⟩ => by
  unfold mvX at h
  split at h
  ·rename_i t et
   obtain ⟨v, a, rv⟩ := r.move et
   exact ⟨v, a, h v G H rv⟩
  ·exact h.elim⟩
end
end FL
namespace FL
open PySem PySem.Spec PyProof.Rows L2
inductive ResG where
 | ok (r : OT) (outs : List OT) | ex (c : Exn) (outs : List OT) | bad
def spG (K : PySem.W.Frag) (mg : Str → Option Value) (on : Prop) (m : List Bool) (F : List OT → ResG) : Sp := fun vs H Q E => ∃ G ts fp, Same G H ∧ ROs K mg G H ts vs fp ∧ fp.Nodup ∧ (∀ p ∈ fp, NG G H p) ∧ match F ts with
 | .ok r outs => ∀ v G' H' fr fo, Same (outer H fp) H' → Same G G' → Same G' H' → (∀ p, H p ≠ none → p ∉ fp → KG G' G H p) → RO K mg G' H' r v fr → ROs K mg G' H' outs (pick m vs) fo → (fr ++ fo).Nodup → (∀ p ∈ fr ++ fo, NG G' H' p ∧ (H p = none ∨ p ∈ fp)) → Q v H'
 | .ex c outs => on ∧ ∀ G' H' fo cls dd, Same (outer H fp) H' → Same G G' → Same G' H' → (∀ p, H p ≠ none → p ∉ fp → KG G' G H p) → ROs K mg G' H' outs (pick m vs) fo → fo.Nodup → (∀ p ∈ fo, NG G' H' p ∧ (H p = none ∨ p ∈ fp)) → RX K mg G' H' c cls dd → E cls dd H'
 | .bad => False
def argsG (n : Nat) (ts : List OT) : En := ts.map some ++ List.replicate (n - ts.length) none
def outsG : Nat → List Bool → En → Option (List OT)
 | _, [], _ => some []
 | k, false :: m, ρ => outsG (k + 1) m ρ
 | k, true :: m, ρ => match ρ[k]? with
  | some (some t) => (outsG (k + 1) m ρ).map (t :: ·)
  | _ => none
def finG (m : List Bool) : Flw → ResG
 | .nx ρ => match outsG 0 m ρ with
  | some outs => .ok (.d .non) outs
  | none => .bad
 | .rt r ρ => match outsG 0 m ρ with
  | some outs => .ok r outs
  | none => .bad
 | .ex c ρ => match outsG 0 m ρ with
  | some outs => .ex c outs
  | none => .bad
 | _ => .bad
def runG (a n : Nat) (m : List Bool) (F : En → Flw) (ts : List OT) : ResG := if ts.length = a ∧ m.length = a then finG m (F (argsG n ts)) else .bad
def ioIx : Nat → List Bool → List Nat
 | _, [] => []
 | k, true :: m => k :: ioIx (k + 1) m
 | k, false :: m => ioIx (k + 1) m
def ioV : Nat → List Bool → List V → List (Nat × V)
 | k, true :: m, v :: vs => (k, v) :: ioV (k + 1) m vs
 | k, false :: m, _ :: vs => ioV (k + 1) m vs
 | _, _, _ => []
theorem ioV_map : ∀ {k : Nat} {m : List Bool} {vs : List V}, m.length = vs.length → (ioV k m vs).map (·.1) = ioIx k m
 | _, [], [], _ => rfl
 | k, true :: m, v :: vs, h => by rw [ioV, List.map_cons, ioV_map (by simpa using h), ioIx]
 | k, false :: m, v :: vs, h => by rw [ioV, ioV_map (by simpa using h), ioIx]
 | _, [], _ :: _, h => nomatch h
 | _, _ :: _, [], h => nomatch h
theorem ioV_mem : ∀ {k : Nat} {m : List Bool} {vs : List V} {q : Nat × V}, q ∈ ioV k m vs → k ≤ q.1 ∧ vs[q.1 - k]? = some q.2
 | k, true :: m, v :: vs, q, h => by
  rw [ioV] at h
  rcases List.mem_cons.mp h with rfl | h
  ·exact ⟨Nat.le_refl _, by simp⟩
  ·obtain ⟨a, b⟩ := ioV_mem h
   refine ⟨by omega, ?_⟩
   rw [show q.1 - k = (q.1 - (k + 1)) + 1 by omega, List.getElem?_cons_succ]; exact b
 | k, false :: m, v :: vs, q, h => by
  rw [ioV] at h
  obtain ⟨a, b⟩ := ioV_mem h
  refine ⟨by omega, ?_⟩
  rw [show q.1 - k = (q.1 - (k + 1)) + 1 by omega, List.getElem?_cons_succ]; exact b
 | _, [], _, _, h => by rw [ioV] at h; cases h; all_goals simp
 | _, true :: _, [], _, h => by simp [ioV] at h
 | _, false :: _, [], _, h => by simp [ioV] at h
section
variable {K : PySem.W.Frag} {mg : Str → Option Value} {B : Bs} {G H G' H' : Hp} {σ σ' : L2.St} {ρ ρ' : En}
theorem ROs.parts : ∀ {ts : List OT} {vs : List V} {fp : List Addr}, ROs K mg G H ts vs fp → fp.Nodup → ∃ FF : Nat → List Addr, (∀ i t, ts[i]? = some t → ∃ v, vs[i]? = some v ∧ RO K mg G H t v (FF i)) ∧ (∀ i, (FF i).Nodup) ∧ (∀ i p, p ∈ FF i → p ∈ fp) ∧ ∀ i j p, i ≠ j → p ∈ FF i → p ∉ FF j
 | [], vs, fp, _, _ => ⟨fun _ => [], fun i t h => (nomatch h), fun _ => List.nodup_nil, fun i p h => (nomatch h), fun i j p _ h => (nomatch h)⟩
 | t :: ts, _, _, ⟨v, r, f1, f2, e1, e2, h, q⟩, nd => by
  subst e1 e2
  obtain ⟨n1, n2, d⟩ := List.nodup_append.mp nd
  obtain ⟨FF, a, b, c, e⟩ := q.parts n2
  refine ⟨fun i => match i with | 0 => f1 | i + 1 => FF i, fun i u hu => ?_, fun i => ?_, fun i p hp => ?_, fun i j p ne hp hq => ?_⟩
  ·cases i with
   | zero => cases hu; exact ⟨v, rfl, h⟩
   | succ i =>
    rw [List.getElem?_cons_succ] at hu ⊢
    exact a i u hu
  ·cases i with
   | zero => exact n1
   | succ i => exact b i
  ·cases i with
   | zero => exact List.mem_append_left _ hp
   | succ i => exact List.mem_append_right _ (c i p hp)
  ·cases i with
   | zero =>
    cases j with
    | zero => exact ne rfl
    | succ j => exact d p hp p (c j p hq) rfl
   | succ i =>
    cases j with
    | zero => exact d p hq p (c i p hp) rfl
    | succ j => exact e i j p (by omega) hp hq
theorem argsG_rep {ts : List OT} {vs : List V} {fp : List Addr} {N : List Str} {m : List Bool} (gh : Same G H) (ro : ROs K mg G H ts vs fp) (nd : fp.Nodup) (fr : ∀ p ∈ fp, NG G H p) (hN : ts.length ≤ N.length) :
  Rep K mg ⟨outer H fp, G, ioV 0 m vs⟩ G H (L2.start N vs) (argsG N.length ts) := by
 have hl := ro.len
 obtain ⟨FF, a, b, c, d⟩ := ro.parts nd
 refine ⟨⟨gh, fun p o h => ?_, Same.refl _, fun _ _ => .refl, fun q hq => ?_⟩, ?_, fun i => FF i, fun i u e => ?_, b, fun i p hp => ?_, d⟩
 ·have h : outer H fp p = some o := h
  unfold outer at h
  split at h
  ·cases h
  ·exact h
 ·obtain ⟨_, h⟩ := ioV_mem hq
  rw [Nat.sub_zero] at h
  unfold L2.start
  rw [List.getElem?_append_left (by rw [List.length_map]; exact (List.getElem?_eq_some_iff.mp h).1), List.getElem?_map, h]
  rfl
 ·unfold L2.start argsG
  rw [List.length_append, List.length_append, List.length_map, List.length_map, List.length_replicate, List.length_replicate, hl]
 ·unfold argsG at e
  by_cases hi : i < ts.length
  ·rw [List.getElem?_append_left (by rw [List.length_map]; exact hi), List.getElem?_map] at e
   obtain ⟨t, et, e2⟩ := Option.map_eq_some_iff.mp e
   cases e2
   obtain ⟨v, h1, h2⟩ := a i _ et
   refine ⟨v, ?_, h2⟩
   unfold L2.start
   rw [List.getElem?_append_left (by rw [List.length_map, hl]; exact hi), List.getElem?_map, h1]
   rfl
  ·rw [List.getElem?_append_right (by rw [List.length_map]; omega), List.getElem?_replicate] at e
   split at e <;> cases e
 ·have hf := c i p hp
  exact ⟨ROs.live ro p hf, fr p hf, by show (if p ∈ fp then none else H p) = none; rw [if_pos hf]⟩
theorem outsG_ok {F : Nat → List Addr} (f : Slots K mg B G H σ ρ F) : ∀ {k : Nat} {m : List Bool} {vs : List V} {outs : List OT}, m.length = vs.length → (∀ q ∈ ioV k m vs, σ[q.1]? = some (some q.2)) → outsG k m ρ = some outs → ∃ fo, ROs K mg G H outs (pick m vs) fo ∧ fo.Nodup ∧ ∀ x ∈ fo, ∃ i, k ≤ i ∧ x ∈ F i
 | k, [], [], outs, _, _, e => by cases e; exact ⟨[], ⟨rfl, rfl⟩, List.nodup_nil, fun x hx => (nomatch hx)⟩
 | k, true :: m, v :: vs, outs, hl, hio, e => by
  unfold outsG at e
  split at e
  ·rename_i t et
   obtain ⟨outs', e1, rfl⟩ := Option.map_eq_some_iff.mp e
   obtain ⟨fo, a, b, c⟩ := outsG_ok f (k := k + 1) (m := m) (vs := vs) (by simpa using hl) (fun q hq => hio q (by rw [ioV]; exact List.mem_cons_of_mem _ hq)) e1
   obtain ⟨w, h1, h2⟩ := f.rep k t et
   have h3 := hio (k, v) (by rw [ioV]; exact List.mem_cons_self)
   rw [h1] at h3
   cases h3
   refine ⟨F k ++ fo, ⟨v, _, F k, fo, by rw [pick], rfl, h2, a⟩, List.nodup_append.mpr ⟨f.nd k, b, fun x hx y hy z => ?_⟩, fun x hx => ?_⟩
   ·subst z
    obtain ⟨i, hi, h⟩ := c x hy
    exact f.dj k i x (by omega) hx h
   ·rcases List.mem_append.mp hx with hx | hx
    ·exact ⟨k, Nat.le_refl _, hx⟩
    ·obtain ⟨i, hi, h⟩ := c x hx
     exact ⟨i, by omega, h⟩
  ·cases e
 | k, false :: m, v :: vs, outs, hl, hio, e => by
  obtain ⟨fo, a, b, c⟩ := outsG_ok f (k := k + 1) (m := m) (vs := vs) (by simpa using hl) (fun q hq => hio q (by rw [ioV]; exact hq)) e
  refine ⟨fo, by rw [pick]; exact a, b, fun x hx => ?_⟩
  obtain ⟨i, hi, h⟩ := c x hx
  exact ⟨i, by omega, h⟩
 | _, [], _ :: _, _, h, _, _ => nomatch h
 | _, true :: _, [], _, h, _, _ => nomatch h
 | _, false :: _, [], _, h, _, _ => nomatch h
end
theorem spG_len {K : PySem.W.Frag} {mg : Str → Option Value} {on : Prop} {a n : Nat} {m : List Bool} {F : En → Flw} {vs : List V} {H : Hp} {Q : VK} {E : XK} (h : spG K mg on m (runG a n m F) vs H Q E) : vs.length = a ∧ m.length = a := by
 obtain ⟨G, ts, fp, _, ro, _, _, h⟩ := h
 rw [ro.len]
 unfold runG at h
 by_cases e : ts.length = a ∧ m.length = a
 ·exact e
 ·rw [if_neg e] at h; exact h.elim
theorem out_runG {X : Cx} {W : WW} {on : Prop} {a n : Nat} {m : List Bool} {F : En → Flw} {ts : List OT} {vs : List V} {G H : Hp} {fp : List Addr} {Q : VK} {E : XK} (hW : on → W.on) (hE : ∀ cls d σ H', E cls d H' → W.w cls d σ H') (hv : m.length = vs.length)
  (h : match runG a n m F ts with
   | .ok r outs => ∀ v G' H' fr fo, Same (outer H fp) H' → Same G G' → Same G' H' → (∀ p, H p ≠ none → p ∉ fp → KG G' G H p) → RO X.K X.mg G' H' r v fr → ROs X.K X.mg G' H' outs (pick m vs) fo → (fr ++ fo).Nodup → (∀ p ∈ fr ++ fo, NG G' H' p ∧ (H p = none ∨ p ∈ fp)) → Q v H'
   | .ex c outs => on ∧ ∀ G' H' fo cls dd, Same (outer H fp) H' → Same G G' → Same G' H' → (∀ p, H p ≠ none → p ∉ fp → KG G' G H p) → ROs X.K X.mg G' H' outs (pick m vs) fo → fo.Nodup → (∀ p ∈ fo, NG G' H' p ∧ (H p = none ∨ p ∈ fp)) → RX X.K X.mg G' H' c cls dd → E cls dd H'
   | .bad => False) : Out X W ⟨outer H fp, G, ioV 0 m vs⟩ { nx := fun _ H' => Q .non H', rt := Q } (F (argsG n ts)) := by
 have og : ∀ {G' : Hp}, (∀ p, outer H fp p ≠ none → KG G' G (outer H fp) p) → ∀ p, H p ≠ none → p ∉ fp → KG G' G H p := fun h p h1 h2 => (h p (by unfold outer; rw [if_neg h2]; exact h1)).at (by unfold outer; rw [if_neg h2])
 have on' : ∀ {p : Addr}, outer H fp p = none → H p = none ∨ p ∈ fp := fun {p} h => by
  unfold outer at h
  split at h
  ·rename_i x; exact .inr x
  ·exact .inl h
 unfold runG at h
 by_cases hc : ts.length = a ∧ m.length = a
 ·rw [if_pos hc] at h
  cases e : F (argsG n ts) with
  | nx ρ =>
   rw [e, finG] at h
   intro σ G' H' r
   obtain ⟨FF, f⟩ := r.sl
   cases eo : outsG 0 m ρ with
   | none => rw [eo] at h; exact h.elim
   | some outs =>
    rw [eo] at h
    obtain ⟨fo, a1, a2, a3⟩ := outsG_ok f hv (fun q hq => r.g.io q hq) eo
    exact h .non G' H' [] fo r.g.oh r.g.g0 r.g.gh (og r.g.og) (RO.dd rfl) a1 (by simpa using a2) fun p hp => by
     obtain ⟨i, _, hi⟩ := a3 p (by simpa using hp)
     exact ⟨(f.at_ i p hi).2.1, on' (f.at_ i p hi).2.2⟩
  | rt r0 ρ =>
   rw [e, finG] at h
   intro v σ G' H' r
   obtain ⟨FF, fv, f, b1, b2, b3, b4⟩ := r.sl
   cases eo : outsG 0 m ρ with
   | none => rw [eo] at h; exact h.elim
   | some outs =>
    rw [eo] at h
    obtain ⟨fo, a1, a2, a3⟩ := outsG_ok f hv (fun q hq => r.g.io q hq) eo
    refine h v G' H' fv fo r.g.oh r.g.g0 r.g.gh (og r.g.og) b1 a1 (List.nodup_append.mpr ⟨b2, a2, fun x hx y hy z => ?_⟩) fun p hp => ?_
    ·subst z
     obtain ⟨i, _, hi⟩ := a3 x hy
     exact b4 i x hx hi
    ·rcases List.mem_append.mp hp with hp | hp
     ·exact ⟨(b3 p hp).2.1, on' (b3 p hp).2.2⟩
     ·obtain ⟨i, _, hi⟩ := a3 p hp
      exact ⟨(f.at_ i p hi).2.1, on' (f.at_ i p hi).2.2⟩
  | bk ρ => rw [e] at h; exact h.elim
  | ct ρ => rw [e] at h; exact h.elim
  | bad => rw [e] at h; exact h.elim
  | ex c ρ =>
   rw [e, finG] at h
   cases eo : outsG 0 m ρ with
   | none => rw [eo] at h; exact h.elim
   | some outs =>
    rw [eo] at h
    refine ⟨hW h.1, fun σ G' H' cls dd r q => hE _ _ _ _ ?_⟩
    obtain ⟨FF, f⟩ := r.sl
    obtain ⟨fo, a1, a2, a3⟩ := outsG_ok f hv (fun q hq => r.g.io q hq) eo
    exact h.2 G' H' fo cls dd r.g.oh r.g.g0 r.g.gh (og r.g.og) a1 a2 (fun p hp => by
     obtain ⟨i, _, hi⟩ := a3 p hp
     exact ⟨(f.at_ i p hi).2.1, on' (f.at_ i p hi).2.2⟩) q
 ·rw [if_neg hc] at h; exact h.elim
section
variable {P : Program} {w : World} {K : PySem.W.Frag} {mg : Str → Option Value} {base : Heap}
theorem fnG0 {x qual : Str} {st : Stmt} {f : Addr} {fd : FuncData} {N ps : List Str} {k : Nat} {F : En → Flw} (m : List Bool) (Fn : Fun K x qual st f fd) (S : FnScope N ps (defScope st)) (hps : ps.length ≤ N.length)
  (hb : ∀ (cdv : Value) (A : Around) (outer : List Env) (s : Shared) (H : Hp) (E : XK), Room k (A.deeper (envOfC qual (defScope st) s.heap.objs.size f cdv)) → SS (cxOf CX0 P w K mg base N qual (defScope st) f cdv A outer s H E).nox W0 (ioIx 0 m) (defBody st) F) :
  FnOk P w K mg base CX0 (k + 1) f fd ps (spG K mg False m (runG ps.length N.length m F)) := by
 refine Fn.ok S (fun vs H Q E h => (spG_len h).1) (fun cdv A out s H vs Q E hr hsp => ?_)
 obtain ⟨hl, hm⟩ := spG_len hsp
 obtain ⟨G, ts, fp, gh, ro, nd, fr, h⟩ := hsp
 have hlen : ts.length = ps.length := by rw [← hl, ro.len]
 have hv : m.length = vs.length := by rw [hm, hl]
 refine ⟨_, (hb cdv A out s H E hr).run ⟨outer H fp, G, ioV 0 m vs⟩ (ioV_map hv), G, argsG N.length ts, argsG_rep gh ro nd fr (by omega), ?_⟩
 refine out_runG (X := (cxOf CX0 P w K mg base N qual (defScope st) f cdv A out s H E).nox) (W := W0) (on := False) (a := ps.length) (E := fun _ _ _ => False) (fun z => z) (fun _ _ _ _ z => z) hv ?_
 cases e : runG ps.length N.length m F ts with
 | ok r t' => rw [e] at h; exact h
 | ex c t' => rw [e] at h; exact h.1.elim
 | bad => rw [e] at h; exact h
theorem fnGX {x qual : Str} {st : Stmt} {f : Addr} {fd : FuncData} {N ps : List Str} {k : Nat} {F : En → Flw} (m : List Bool) (Fn : Fun K x qual st f fd) (S : FnScope N ps (defScope st)) (hps : ps.length ≤ N.length)
  (hb : ∀ (cdv : Value) (A : Around) (outer : List Env) (s : Shared) (H : Hp) (E : XK), Room k (A.deeper (envOfC qual (defScope st) s.heap.objs.size f cdv)) → SS (cxOf (L2N.CX P w) P w K mg base N qual (defScope st) f cdv A outer s H E) ⟨True, fun cls d _ H' => E cls d H'⟩ (ioIx 0 m) (defBody st) F) :
  FnOk P w K mg base (L2N.CX P w) (k + 1) f fd ps (spG K mg True m (runG ps.length N.length m F)) := by
 refine okN Fn S (fun vs H Q E h => (spG_len h).1) (fun cdv A out s H vs Q E hr hsp => ?_)
 obtain ⟨hl, hm⟩ := spG_len hsp
 obtain ⟨G, ts, fp, gh, ro, nd, fr, h⟩ := hsp
 have hlen : ts.length = ps.length := by rw [← hl, ro.len]
 have hv : m.length = vs.length := by rw [hm, hl]
 exact ⟨_, (hb cdv A out s H E hr).run ⟨outer H fp, G, ioV 0 m vs⟩ (ioV_map hv), G, argsG N.length ts, argsG_rep gh ro nd fr (by omega), out_runG (X := cxOf (L2N.CX P w) P w K mg base N qual (defScope st) f cdv A out s H E) (W := ⟨True, fun cls d _ H' => E cls d H'⟩) (on := True) (a := ps.length) (E := E) (fun z => z) (fun _ _ _ _ z => z) hv h⟩
end
structure CalG (P : Program) (w : World) (K : PySem.W.Frag) (mg : Str → Option Value) (base : Heap) (CX : CXT) (on : Prop) (x : Str) (k : Nat) (m : List Bool) (F : List OT → ResG) : Prop where
 ex : ∃ f fd ps, FnOk P w K mg base CX k f fd ps (spG K mg on m F) ∧ mg x = some (.ref f) ∧ PySem.W.keepIn K (.ref f) = true ∧ Binds K fd ps []
def backG (as : List ArgT) (ρ : En) : ResG → ResX
 | .ok r outs => match lents as outs with
  | some l => .ok r (setAll l ρ)
  | none => .bad
 | .ex c outs => match lents as outs with
  | some l => .ex c (setAll l ρ)
  | none => .bad
 | .bad => .bad
def callA (m : List Bool) (F : List OT → ResG) : ResA → ResX
 | .ok as ρ => if maskOf as = m then match argTs as with
  | some ts => backG as ρ (F ts)
  | none => .bad else .bad
 | .ex c ρ => .ex c ρ
 | .bad => .bad
def callG (m : List Bool) (F : List OT → ResG) (fs : En → ResA) (ρ : En) : ResX := callA m F (fs ρ)
def nxG (F : List OT → ResG) (ts : List OT) : ResG := match F ts with
 | .ex _ _ => .bad
 | r => r
section
variable {X : Cx} {W : WW} {e : Expr} {es : List Expr} {fs : En → ResA} {x : Str} {k : Nat} {p pos : Pos} {CX : CXT} {on : Prop} {m : List Bool} {F : List OT → ResG}
theorem callA_ok {B : Bs} {G H : Hp} {σ : L2.St} {ρ : En} {Q : VK} {as : List ArgT} {vs : List V} (hon : W.on → on) (r : RepA X.K X.mg B G H σ ρ as vs) (h : WrX X W B σ (callA m F (.ok as ρ)) Q) : spG X.K X.mg on m F vs H Q (WE W.w σ) := by
 unfold callA at h
 (try dsimp only at h)
 split at h
 ·rename_i hm
  cases et : argTs as with
  | none => rw [et] at h; exact h.elim
  | some ts =>
   rw [et] at h
   (try dsimp only at h)
   obtain ⟨cf, c1, c2, c3, c4⟩ := r.back et
   refine ⟨G, ts, cf, r.g.gh, c1, c2, c3, ?_⟩
   cases eF : F ts with
   | bad => rw [eF] at h; exact h
   | ok t outs =>
    rw [eF, backG] at h
    (try dsimp only at h)
    cases el : lents as outs with
    | none => rw [el] at h; exact h.elim
    | some l =>
     rw [el] at h
     intro v G' H' fr fo o1 o2 o3 o4 rv rt nd at_
     have n2 := List.nodup_append.mp nd
     exact h v G' H' ((c4 G' H' outs l fo o1 o2 o3 o4 (by rw [hm]; exact rt) n2.2.1 (fun p hp => at_ p (List.mem_append_right _ hp)) el).2 t v fr rv nd fun p hp => at_ p (List.mem_append_left _ hp))
   | ex c outs =>
    rw [eF, backG] at h
    (try dsimp only at h)
    cases el : lents as outs with
    | none => rw [el] at h; exact h.elim
    | some l =>
     rw [el] at h
     refine ⟨hon h.1, fun G' H' fo cls dd o1 o2 o3 o4 rt nd at_ q => ?_⟩
     exact h.2 G' H' cls dd (c4 G' H' outs l fo o1 o2 o3 o4 (by rw [hm]; exact rt) nd at_ el).1 q
 ·exact h.elim
theorem EX.callG (c : CalG X.prog X.w X.K X.mg X.base CX on x k m F) (hr : Room k X.A) (hx : ∀ σ, PassesAt CX X σ (WE W.w σ)) (hon : W.on → on) (ha : EXA X W (e :: es) fs) (hg : Gl X x := by rfl) (hdb : (x == ("__debug__" : Str)) = false := by decide)
  (he : starEach (e :: es) X.env = (false, eval e X.env) :: starEach es X.env := by rfl) (hpl : (backTo pos (starEach es X.env)).any (·.1) = false := by rfl) : EX X W (.Call (.Name x p) (e :: es) [] pos) (callG m F fs) := ⟨fun B => by
 obtain ⟨f, fd, ps, hf, hm, hk, hb⟩ := c.ex
 refine PE.mono (pe_callS (E := WE W.w) hf hr hg hm hk hb hx (ha.run B) hdb he hpl) fun σ H Q ⟨G, ρ, r, h⟩ => ⟨G, ρ, r, ?_⟩
 unfold FL.callG at h
 cases ef : fs ρ with
 | bad => rw [ef] at h; exact h.elim
 | ex c ρ1 => rw [ef] at h; exact h
 | ok as ρ1 =>
  rw [ef] at h
  exact fun vs G1 H1 r1 => callA_ok hon r1 h⟩
theorem CalG.nx (c : CalG X.prog X.w X.K X.mg X.base CX0 False x k m F) : CalG X.prog X.w X.K X.mg X.base CX0 True x k m (nxG F) := by
 obtain ⟨f, fd, ps, hf, hm, hk, hb⟩ := c.ex
 refine ⟨f, fd, ps, hf.imp fun vs H Q E ⟨G, ts, fp, a1, a2, a3, a4, h⟩ => ⟨G, ts, fp, a1, a2, a3, a4, ?_⟩, hm, hk, hb⟩
 unfold nxG at h
 cases e : F ts with
 | ok r t' => rw [e] at h; exact h
 | ex c t' => rw [e] at h; exact h.elim
 | bad => rw [e] at h; exact h
theorem EX.callG0 (c : CalG X.prog X.w X.K X.mg X.base CX0 False x k m F) (hr : Room k X.A) (ha : EXA X W (e :: es) fs) (hg : Gl X x := by rfl) (hdb : (x == ("__debug__" : Str)) = false := by decide)
  (he : starEach (e :: es) X.env = (false, eval e X.env) :: starEach es X.env := by rfl) (hpl : (backTo pos (starEach es X.env)).any (·.1) = false := by rfl) : EX X W (.Call (.Name x p) (e :: es) [] pos) (FL.callG m (nxG F) fs) := EX.callG c.nx hr px0 (fun _ => trivial) ha hg hdb he hpl
end
end FL
namespace FL
open PySem PySem.Spec PyProof.Rows L2
def ownTs : List ArgT → Option (List OT)
 | [] => some []
 | .own t :: as => (ownTs as).map (t :: ·)
 | _ => none
section
variable {K : PySem.W.Frag} {mg : Str → Option Value} {B : Bs} {G H G' H' : Hp} {σ σ' : L2.St} {ρ ρ' : En}
theorem RAs.own : ∀ {as : List ArgT} {ts : List OT} {vs : List V} {fp : List Addr}, ownTs as = some ts → RAs K mg G H σ as vs fp → ROs K mg G H ts vs fp
 | [], ts, vs, fp, e, h => by cases e; exact h
 | .own t :: as, ts, vs, fp, e, ⟨v, r, f1, f2, e1, e2, h, q⟩ => by
  obtain ⟨ts', et, rfl⟩ := Option.map_eq_some_iff.mp e
  exact ⟨v, r, f1, f2, e1, e2, h, RAs.own et q⟩
 | .lent _ _ _ :: _, _, _, _, e, _ => by cases e
theorem RepA.own {as : List ArgT} {ts : List OT} {vs : List V} (e : ownTs as = some ts) (r : RepA K mg B G H σ ρ as vs) : RepVs K mg B G H σ ρ ts vs := by
 obtain ⟨F, fv, f, h, a, b, c⟩ := r.sl
 exact ⟨r.g, r.len, F, fv, f, h.own e, a, b, c⟩
theorem RepVs.node {ts : List OT} {vs : List V} {p : Addr} {o : HO} {t : OT} (r : RepVs K mg B G H σ ρ ts vs) (hp : H p = none) (h : ∀ G' H' fs, H' p = some o → ROs K mg G' H' ts vs fs → RO K mg G' H' t (.ref p) (p :: fs)) : RepV K mg B G (upd H p o) σ ρ t (.ref p) := by
 obtain ⟨F, fv, f, ro, nd, at_, dj⟩ := r.sl
 have st : Stp G H G (upd H p o) := Stp.own r.g.gh hp
 have np : p ∉ fv := fun z => (at_ p z).1 hp
 have hO : B.O p = none := r.g.oh.free hp
 refine ⟨r.g.step st, r.len, F, p :: fv, f.step st, h _ _ _ upd_same (ro.frame (Same.refl _) fun q hq => upd_ne fun z => np (z ▸ hq)), List.nodup_cons.mpr ⟨np, nd⟩, fun q hq => ?_, fun i q hq hi => ?_⟩
 ·rcases List.mem_cons.mp hq with rfl | hq
  ·exact ⟨by rw [upd_same]; exact fun z => (nomatch z), .inl (r.g.gh.free hp), hO⟩
  ·obtain ⟨c1, c2, c3⟩ := at_ q hq
   exact ⟨live_of st.hh c1, c2.mono st.hh, c3⟩
 ·rcases List.mem_cons.mp hq with rfl | hq
  ·exact (f.at_ i _ hi).1 hp
  ·exact dj i q hq hi
open Classical in
theorem RepVs.frozen {ts : List OT} {vs : List V} (r : RepVs K mg B G H σ ρ ts vs) : ∃ G', Same G G' ∧ Rep K mg B G' H σ ρ ∧ Rs K mg G' (fzs ts) vs := by
 obtain ⟨F, fv, f, ro, nd, at_, dj⟩ := r.sl
 let G' : Hp := fun p => if p ∈ fv then H p else G p
 have g1 : Same G G' := fun p o h => by
  show (if p ∈ fv then H p else G p) = some o
  split
  ·exact r.g.gh p o h
  ·exact h
 refine ⟨G', g1, ⟨⟨fun p o h => ?_, r.g.oh, r.g.g0.trans g1, fun p h => ?_, r.g.io⟩, r.len, F, ⟨fun i t e => ?_, f.nd, fun i p hp => ?_, f.dj⟩⟩, ro.fzs g1 fun p hp => if_pos hp⟩
 ·change (if p ∈ fv then H p else G p) = some o at h
  split at h
  ·exact h
  ·exact r.g.gh p o h
 ·rcases r.g.og p h with z | z
  ·refine .inl ?_
   show (if p ∈ fv then H p else G p) = _
   rw [if_neg fun z => h (at_ p z).2.2]
   exact z
  ·exact .inr z
 ·obtain ⟨v, a, b⟩ := f.rep i t e
  exact ⟨v, a, b.frame g1 fun _ _ => rfl⟩
 ·obtain ⟨a, b, c⟩ := f.at_ i p hp
  exact ⟨a, b.imp (if_neg fun z => dj i p z hp).trans id, c⟩
theorem RepV.vs {t : OT} {v : V} (r : RepV K mg B G H σ ρ t v) : RepVs K mg B G H σ ρ [t] [v] := by
 obtain ⟨F, fv, f, ro, nd, at_, dj⟩ := r.sl
 exact ⟨r.g, r.len, F, fv, f, ROs.one ro, nd, at_, dj⟩
theorem RepV.frozenG {t : OT} {v : V} (r : RepV K mg B G H σ ρ t v) : ∃ G', Same G G' ∧ Rep K mg B G' H σ ρ ∧ R K mg G' (fz t) v := by
 obtain ⟨G', a, b, c⟩ := r.vs.frozen
 obtain ⟨w, e, h⟩ := Rs.one (show Rs K mg G' [fz t] [v] from c)
 cases e
 exact ⟨G', a, b, h⟩
theorem RepV.step {t : OT} {v : V} (r : RepV K mg B G H σ ρ t v) (s : Stp G H G' H') : RepV K mg B G' H' σ ρ t v := by
 obtain ⟨F, fv, f, ro, nd, at_, dj⟩ := r.sl
 refine ⟨r.g.step s, r.len, F, fv, f.step s, ro.frame s.gg fun p hp => same_at s.hh (at_ p hp).1, nd, fun p hp => ?_, dj⟩
 obtain ⟨a, b, c⟩ := at_ p hp
 exact ⟨live_of s.hh a, (s.old p a).ng b (same_at s.hh a), c⟩
theorem upd_side {fp : List Addr} {l : Addr} {o : HO} (hl : l ∈ fp) (gh : Same G H) (fr : G l = none) : Same (outer H fp) (upd H l o) ∧ Same G (upd H l o) := by
 refine ⟨fun p q h => ?_, fun p q h => ?_⟩
 ·unfold outer at h
  split at h
  ·cases h
  ·rename_i n
   rw [upd_ne (fun (z : p = l) => n (by rw [z]; exact hl))]; exact h
 ·rw [upd_ne (fun (z : p = l) => by rw [z, fr] at h; cases h)]; exact gh p q h
end
section
variable {X : Cx} {W : WW} {io : List Nat} {a b e e2 : Expr} {es : List Expr} {fa fb f : En → ResX} {fs : En → ResA} {fd fi : En → Res D} {fp : En → Res (List Nat)} {pos ppos apos cpos pos' : Pos} {x : Str}
def mkX (g : List OT → Option OT) : ResA → ResX
 | .ok as ρ => match ownTs as with
  | some ts => match g ts with
   | some t => .ok t ρ
   | none => .bad
  | none => .bad
 | .ex c ρ => .ex c ρ
 | .bad => .bad
def tupO (ts : List OT) : Option OT := if ts.length ≤ 16777216 then some (.tup ts) else none
def lstO (ts : List OT) : Option OT := if ts.length ≤ 16777216 then some (.lst ts) else none
def disX (g : List OT → Option OT) (fs : En → ResA) (ρ : En) : ResX := mkX g (fs ρ)
theorem EX.tup {n} (ha : EXA X W es fs) : EX X W (.Tuple es n pos) (disX tupO fs) := ⟨fun B => PE.mono (pe_tup (ha.run B)) fun σ H Q ⟨G, ρ, r, h⟩ => ⟨G, ρ, r, by
 unfold disX at h
 cases ef : fs ρ with
 | bad => rw [ef] at h; exact h.elim
 | ex c ρ1 => rw [ef] at h; exact h
 | ok as ρ1 =>
  rw [ef, mkX] at h
  (try dsimp only at h)
  cases eo : ownTs as with
  | none => rw [eo] at h; exact h.elim
  | some ts =>
   rw [eo] at h
   (try dsimp only at h)
   unfold tupO at h
   split at h
   ·rename_i t et
    split at et
    ·rename_i hl
     cases et
     intro vs G1 H1 r1
     have rv := r1.own eo
     have hlen : vs.length = ts.length := by
      obtain ⟨F, fv, _, ro, _⟩ := rv.sl
      exact ro.len
     exact ⟨by rw [hlen]; exact sz_le hl, fun p hp => h _ G1 _ (rv.node hp fun G' H' fs e q => ⟨p, vs, fs, rfl, rfl, sz_le hl, e, q⟩)⟩
    ·cases et
   ·exact h.elim⟩⟩
theorem EX.lst (ha : EXA X W es fs) : EX X W (.List es pos) (disX lstO fs) := ⟨fun B => PE.mono (pe_lst (ha.run B)) fun σ H Q ⟨G, ρ, r, h⟩ => ⟨G, ρ, r, by
 unfold disX at h
 cases ef : fs ρ with
 | bad => rw [ef] at h; exact h.elim
 | ex c ρ1 => rw [ef] at h; exact h
 | ok as ρ1 =>
  rw [ef, mkX] at h
  (try dsimp only at h)
  cases eo : ownTs as with
  | none => rw [eo] at h; exact h.elim
  | some ts =>
   rw [eo] at h
   (try dsimp only at h)
   unfold lstO at h
   split at h
   ·rename_i t et
    split at et
    ·rename_i hl
     cases et
     intro vs G1 H1 r1
     have rv := r1.own eo
     have hlen : vs.length = ts.length := by
      obtain ⟨F, fv, _, ro, _⟩ := rv.sl
      exact ro.len
     exact ⟨by rw [hlen]; exact sz_le hl, fun p hp => h _ G1 _ (rv.node hp fun G' H' fs e q => ⟨p, vs, fs, rfl, rfl, sz_le hl, e, q⟩)⟩
    ·cases et
   ·exact h.elim⟩⟩
def op2Y (g : D → D → Option D) (fa fb : En → ResX) (ρ : En) : ResX := match fa ρ with
 | .ok t ρ1 => match fb ρ1 with
  | .ok u ρ2 => match g (fz t) (fz u) with
   | some d => .ok (.d d) ρ2
   | none => .bad
  | .ex c ρ2 => .ex c ρ2
  | .bad => .bad
 | .ex c ρ1 => .ex c ρ1
 | .bad => .bad
theorem EX.anyB (h : EX X W e f) : PE X e fun σ H Q => ∃ B G ρ, Rep X.K X.mg B G H σ ρ ∧ WrX X W B σ (f ρ) Q := ⟨fun pins s σ H Q I ⟨B, q⟩ => (h.run B).run pins s σ H Q I q⟩
theorem op2Y_next {B : Bs} {G H : Hp} {σ : L2.St} {ρ : En} {Q : VK} {g : D → D → Option D} (r : Rep X.K X.mg B G H σ ρ) (h : WrX X W B σ (op2Y g fa fb ρ) Q) : ∃ G ρ, Rep X.K X.mg B G H σ ρ ∧ WrX X W B σ (fa ρ) fun x H1 => ∃ B G ρ, Rep X.K X.mg B G H1 σ ρ ∧ WrX X W B σ (fb ρ) fun y H2 => rD X g x y H2 Q := by
 refine ⟨G, ρ, r, ?_⟩
 unfold op2Y at h
 cases ea : fa ρ with
 | bad => rw [ea] at h; exact h.elim
 | ex c ρ1 => rw [ea] at h; exact h
 | ok t ρ1 =>
  rw [ea] at h
  (try dsimp only at h)
  intro v G1 H1 r1
  obtain ⟨G2, g12, r2, rt⟩ := r1.frozenG
  have r3 := r2.unbase (G1 := G2) (Same.refl _) fun _ _ => .refl
  refine ⟨_, G2, ρ1, r3, ?_⟩
  have gB := r2.g
  cases eb : fb ρ1 with
  | bad => rw [eb] at h; exact h.elim
  | ex c ρ2 =>
   rw [eb] at h
   exact ⟨h.1, fun G' H' cls dd q z => h.2 G' H' cls dd (q.base gB.g0 gB.og) z⟩
  | ok u ρ2 =>
   rw [eb] at h
   (try dsimp only at h)
   cases eg : g (fz t) (fz u) with
   | none => rw [eg] at h; exact h.elim
   | some d =>
    rw [eg] at h
    intro w G4 H4 r4
    obtain ⟨G5, g45, r5, ru⟩ := r4.frozenG
    have gg : Same G2 G5 := r5.g.g0
    exact ⟨G5, fz t, fz u, d, r5.gh, R.mono gg rt, ru, eg, fun y G6 H6 s q => h y G6 H6 (((r5.base gB.g0 gB.og).step s).val q)⟩
theorem EX.bin2 {op : Operator} {g : D → D → Option D} (ho : OpD X (binaryOp op) g) (ha : EX X W a fa) (hb : EX X W b fb) : EX X W (.BinOp a op b pos) (op2Y g fa fb) := ⟨fun B => PE.mono (pe_op ho (ha.run B) hb.anyB) fun σ H Q ⟨G, ρ, r, h⟩ => op2Y_next r h⟩
def callY (F : List D → Res OT) : ResA → ResX
 | .ok as ρ => match ownTs as with
  | some ts => match F (fzs ts) with
   | .ok t => .ok t ρ
   | .ex c => .ex c ρ
   | .bad => .bad
  | none => .bad
 | .ex c ρ => .ex c ρ
 | .bad => .bad
def callD (F : List D → Res OT) (fs : En → ResA) (ρ : En) : ResX := callY F (fs ρ)
theorem EX.callD {k : Nat} {p : Pos} {CX : CXT} {on : Prop} {F : List D → Res OT} (c : Cal X.prog X.w X.K X.mg X.base CX on x k F) (hr : Room k X.A) (hx : ∀ σ, PassesAt CX X σ (WE W.w σ)) (hon : W.on → on) (ha : EXA X W (e :: es) fs) (hg : Gl X x := by rfl) (hdb : (x == ("__debug__" : Str)) = false := by decide)
  (he : starEach (e :: es) X.env = (false, eval e X.env) :: starEach es X.env := by rfl) (hpl : (backTo pos (starEach es X.env)).any (·.1) = false := by rfl) : EX X W (.Call (.Name x p) (e :: es) [] pos) (FL.callD F fs) := ⟨fun B => by
 obtain ⟨f, fd, ps, hf, hm, hk, hb⟩ := c.ex
 refine PE.mono (pe_callS (E := WE W.w) hf hr hg hm hk hb hx (ha.run B) hdb he hpl) fun σ H Q ⟨G, ρ, r, h⟩ => ⟨G, ρ, r, ?_⟩
 unfold FL.callD at h
 cases ef : fs ρ with
 | bad => rw [ef] at h; exact h.elim
 | ex c ρ1 => rw [ef] at h; exact h
 | ok as ρ1 =>
  rw [ef, callY] at h
  (try dsimp only at h)
  cases eo : ownTs as with
  | none => rw [eo] at h; exact h.elim
  | some ts =>
   rw [eo] at h
   (try dsimp only at h)
   intro vs G1 H1 r1
   obtain ⟨G2, g12, r2, rs⟩ := (r1.own eo).frozen
   refine ⟨G2, fzs ts, r2.gh, rs, ?_⟩
   cases eF : F (fzs ts) with
   | bad => rw [eF] at h; exact h.elim
   | ex c => rw [eF] at h; exact ⟨hon h.1, fun G' H' cls dd s q => h.2 G' H' cls dd (r2.step s) q⟩
   | ok t =>
    rw [eF] at h
    exact fun v G' H' s ⟨fp, q1, q2, q3⟩ => h v G' H' (r2.fresh s q1 q2 q3)⟩
def rG (K : PySem.W.Frag) (mg : Str → Option Value) (M : OT → List OT → Option (OT × OT)) : V → List V → Hp → VK → Prop := fun x vs H Q => ∃ G u ts fp r u', Same G H ∧ ROs K mg G H (u :: ts) (x :: vs) fp ∧ fp.Nodup ∧ (∀ p ∈ fp, NG G H p) ∧ M u ts = some (r, u') ∧
 ∀ v G' H' fr fo, Same (outer H fp) H' → Same G G' → Same G' H' → (∀ p, H p ≠ none → p ∉ fp → KG G' G H p) → RO K mg G' H' r v fr → RO K mg G' H' u' x fo → (fr ++ fo).Nodup → (∀ p ∈ fr ++ fo, NG G' H' p ∧ (H p = none ∨ p ∈ fp)) → Q v H'
def MtG (X : Cx) (id : String) (M : OT → List OT → Option (OT × OT)) : Prop := MtR X id (rG X.K X.mg M)
def methG (M : OT → List OT → Option (OT × OT)) : List OT → ResG
 | u :: ts => match M u ts with
  | some (r, u') => .ok r [u']
  | none => .bad
 | _ => .bad
def tyO (T : String) : OT → Bool
 | .lst _ => T == "list"
 | .dK _ _ => T == "dict"
 | .dT _ _ => T == "dict"
 | _ => false
theorem tyO_ok {K : PySem.W.Frag} {mg : Str → Option Value} {G H : Hp} {T : String} {t : OT} {v : V} {fp : List Addr} (h : tyO T t = true) (r : RO K mg G H t v fp) : tyV K T v H := by
 cases t with
 | lst ts =>
  obtain ⟨a, vs, fs, rfl, _, _, ha, _⟩ := r
  have : T = "list" := by simpa [tyO] using h
  subst this
  exact tyV_lst ha
 | dK ks ts =>
  obtain ⟨a, vs, fs, rfl, _, _, ha, _⟩ := r
  have : T = "dict" := by simpa [tyO] using h
  subst this
  exact .inr (.inr (.inl ⟨rfl, .inl ⟨_, ha⟩⟩))
 | dT ks ts =>
  obtain ⟨a, vs, fs, rfl, _, _, ha, _⟩ := r
  have : T = "dict" := by simpa [tyO] using h
  subst this
  exact .inr (.inr (.inl ⟨rfl, .inr ⟨_, ha⟩⟩))
 | d x => simp [tyO] at h
 | tup ts => simp [tyO] at h
 | lk ks ts => simp [tyO] at h
 | ins C ns ts => simp [tyO] at h
def mtB (M : OT → List OT → Option (OT × OT)) : ResA → ResX
 | .ok as ρ => if (maskOf as).tail.all (fun b => !b) = true then callA (maskOf as) (methG M) (.ok as ρ) else .bad
 | .ex c ρ => .ex c ρ
 | .bad => .bad
def mtT (T : String) (s : Nat) (M : OT → List OT → Option (OT × OT)) (fp : En → Res (List Nat)) (fs : En → ResA) (ρ : En) : ResX := match fp ρ with
 | .ok p => match ρ[s]? with
  | some (some t0) => match t0.sub p with
   | some u => if tyO T u = true then mtB M (tailX (.lent s t0 p) (fs (ρ.set s none))) else .bad
   | none => .bad
  | _ => .bad
 | .ex c => .ex c ρ
 | .bad => .bad
theorem pick_false {α : Type} : ∀ {m : List Bool} (vs : List α), m.all (fun b => !b) = true → pick m vs = []
 | [], vs, _ => by cases vs <;> rfl
 | true :: m, vs, h => by simp at h
 | false :: m, [], h => rfl
 | false :: m, v :: vs, h => by rw [pick]; exact pick_false vs (by simpa using h)
theorem lend_next {B : Bs} {G1 H1 : Hp} {σ : L2.St} {ρ : En} {s : Nat} {t0 u : OT} {p : List Nat} {v v0 : V} {Q : List V → Hp → Prop} (r1 : Rep X.K X.mg B G1 H1 σ ρ) (et : ρ[s]? = some (some t0)) (eu : t0.sub p = some u) (q1 : σ[s]? = some (some v0)) (q2 : walkV H1 v0 p = some v)
  (w : WrA X W B σ (tailX (.lent s t0 p) (fs (ρ.set s none))) Q) : ∃ B', Rep X.K X.mg B' G1 H1 σ (ρ.set s none) ∧ WrA X W B' σ (fs (ρ.set s none)) fun vs H' => Q (v :: vs) H' := by
 obtain ⟨F, f1⟩ := r1.sl
 obtain ⟨v1, a1, a2⟩ := f1.rep s t0 et
 rw [q1] at a1
 cases a1
 have f2 : Slots X.K X.mg B G1 H1 σ (ρ.set s none) (fun j => if j = s then [] else F j) := by
  refine ⟨fun i u e => ?_, fun i => ?_, fun i p hp => ?_, fun i j p ne hp hq => ?_⟩
  ·rcases get_set e with ⟨_, _, e2⟩ | ⟨ne, e⟩
   ·cases e2
   ·obtain ⟨w, a, b⟩ := f1.rep i u e
    exact ⟨w, a, by rw [if_neg (fun z => ne z.symm)]; exact b⟩
  ·(try dsimp only); split
   ·exact List.nodup_nil
   ·exact f1.nd i
  ·(try dsimp only at hp); split at hp
   ·cases hp
   ·exact f1.at_ i p hp
  ·(try dsimp only at hp hq)
   split at hp
   ·cases hp
   ·split at hq
    ·cases hq
    ·exact f1.dj i j p ne hp hq
 exact ⟨holdB B G1 H1 (F s), tail_next (a := .lent s t0 p) (v := v) r1.g (by rw [List.length_set]; exact r1.len) f2 ⟨v0, u, q1, a2, eu, q2⟩ (f1.nd s) (f1.at_ s) (fun i x hx hi => by
  (try dsimp only at hi); split at hi
  ·cases hi
  ·rename_i ne; exact f1.dj i s x ne hi hx) w⟩
theorem EXA.anyB (h : EXA X W es fs) : PA X es fun σ H Q => ∃ B G ρ, Rep X.K X.mg B G H σ ρ ∧ WrA X W B σ (fs ρ) Q := ⟨fun pos pins s σ H Q I ⟨B, q⟩ => (h.run B).run pos pins s σ H Q I q⟩
theorem mtT_next {T : String} {s : Nat} {M : OT → List OT → Option (OT × OT)} {B : Bs} {G H : Hp} {σ : L2.St} {ρ : En} {Q : VK} {t : TA} (ht : ∀ σ H Q, (∃ B G ρ, Rep X.K X.mg B G H σ ρ ∧ WrA X W B σ (fs ρ) Q) → t σ H Q) (r : Rep X.K X.mg B G H σ ρ) (h : WrX X W B σ (mtT T s M fp fs ρ) Q) :
  lift X W (relW σ s) B fp σ H fun x H1 => tyV X.K T x H1 ∧ t σ H1 fun vs H2 => rG X.K X.mg M x vs H2 Q := by
 unfold mtT at h
 refine ⟨G, ρ, r, ?_⟩
 cases ep : fp ρ with
 | bad => rw [ep] at h; exact h.elim
 | ex c =>
  rw [ep] at h
  exact ⟨h.1, fun G' H' cls dd s q => h.2 G' H' cls dd (r.step s) q⟩
 | ok p =>
  rw [ep] at h
  (try dsimp only at h)
  intro v G1 H1 s1 ⟨v0, q1, q2⟩
  have r1 := r.step s1
  cases et : ρ[s]? with
  | none => rw [et] at h; exact h.elim
  | some o =>
   cases o with
   | none => rw [et] at h; exact h.elim
   | some t0 =>
    rw [et] at h
    (try dsimp only at h)
    cases eu : t0.sub p with
    | none => rw [eu] at h; exact h.elim
    | some u =>
     rw [eu] at h
     (try dsimp only at h)
     split at h
     ·rename_i ty
      obtain ⟨v0', w0, gu, h1, h2, h3, _⟩ := r1.sub et eu
      rw [q1] at h1
      cases h1
      rw [q2] at h2
      cases h2
      refine ⟨tyO_ok ty h3, ?_⟩
      have w : WrA X W B σ (tailX (.lent s t0 p) (fs (ρ.set s none))) (fun vs H2 => ∀ us, vs = v :: us → rG X.K X.mg M v us H2 Q) := by
       cases ef : tailX (.lent s t0 p) (fs (ρ.set s none)) with
       | bad => rw [ef] at h; exact h
       | ex c ρ2 => rw [ef] at h; exact h
       | ok as ρ2 =>
        rw [ef, mtB] at h
        (try dsimp only at h)
        split at h
        ·rename_i hm
         intro vs G2 H2 r2 us evs
         subst evs
         obtain ⟨G3, ts, cf, a1, a2, a3, a4, a5⟩ := callA_ok (on := W.on) (fun z => z) r2 h
         cases ts with
         | nil => obtain ⟨z, _⟩ := a2; cases z
         | cons u0 ts =>
          rw [methG] at a5
          (try dsimp only at a5)
          cases eM : M u0 ts with
          | none => rw [eM] at a5; exact a5.elim
          | some q =>
           obtain ⟨r0, u1⟩ := q
           rw [eM] at a5
           (try dsimp only at a5)
           refine ⟨G3, u0, ts, cf, r0, u1, a1, a2, a3, a4, eM, fun y G' H' fr fo o1 o2 o3 o4 rv ro nd at_ => a5 y G' H' fr fo o1 o2 o3 o4 rv ?_ nd at_⟩
           obtain ⟨m0, em⟩ : ∃ m0, maskOf as = true :: m0 := by
            cases e2 : fs (ρ.set s none) with
            | bad => rw [e2] at ef; cases ef
            | ex c ρ3 => rw [e2] at ef; cases ef
            | ok as' ρ3 => rw [e2, tailX] at ef; cases ef; exact ⟨_, rfl⟩
           rw [em] at hm ⊢
           rw [pick, pick_false us (show m0.all _ = true from hm)]
           exact ROs.one ro
        ·exact h.elim
      obtain ⟨B', rB, wB⟩ := lend_next r1 et eu q1 q2 w
      refine ht _ _ _ ⟨B', G1, _, rB, ?_⟩
      cases ef : fs (ρ.set s none) with
      | bad => rw [ef] at wB; exact wB
      | ex c ρ2 => rw [ef] at wB; exact wB
      | ok as ρ2 => rw [ef] at wB; exact fun vs G' H' q => wB vs G' H' q vs rfl
     ·exact h.elim
theorem EX.mt {T : String} {s : Nat} {M : OT → List OT → Option (OT × OT)} {o : Expr} {name id : String} (hM : MtG X id M) (pa : PlainAttrs T) (slot : Slot T name id) (hty : typeOf (.builtin id) = pure (.type "method_descriptor")) (he : EP X W s o fp) (ha : EXA X W (e :: es) fs)
  (hbase : attributeBase o name X.env (eval o X.env) = eval o X.env := by rfl)
  (hfew : ((backTo cpos (starEach (e :: es) X.env)).all (fun y => !y.1) && (backToKw cpos (keywordEach [] X.env)).all (fun y => y.1.isSome) && decide ((e :: es).length + ([] : List Keyword).length + (if ([] : List Keyword).isEmpty then 0 else 1) < 30)) = true := by rfl)
  (hline : (apos.endLine == cpos.line) = true := by rfl) (hs : starEach (e :: es) X.env = (false, eval e X.env) :: starEach es X.env := by rfl) (hp : (backTo cpos (starEach es X.env)).any (·.1) = false := by rfl) :
  EX X W (.Call (.Attribute o name apos) (e :: es) [] cpos) (mtT T s M fp fs) := ⟨fun B =>
 PE.mono (pe_bm pa slot hty hM (he.run B) ha.anyB hbase hfew hline hs hp) fun σ H Q ⟨G, ρ, r, h⟩ => mtT_next (fun _ _ _ z => z) r h⟩
theorem EX.mt0 {T : String} {s : Nat} {M : OT → List OT → Option (OT × OT)} {o : Expr} {name id : String} (hM : MtG X id M) (pa : PlainAttrs T) (slot : Slot T name id) (hty : typeOf (.builtin id) = pure (.type "method_descriptor")) (he : EP X W s o fp)
  (hbase : attributeBase o name X.env (eval o X.env) = eval o X.env := by rfl) (hline : (apos.endLine == cpos.line) = true := by rfl) :
  EX X W (.Call (.Attribute o name apos) [] [] cpos) (mtT T s M fp nilX) := ⟨fun B =>
 PE.mono (pe_bm0 pa slot hty hM (he.run B) hbase hline) fun σ H Q ⟨G, ρ, r, h⟩ => mtT_next (t := fun _ H Q => Q [] H) (fs := nilX) (fun σ H Q ⟨B, G, ρ, r, w⟩ => by
  obtain ⟨F, f⟩ := r.sl
  exact w [] G H ⟨r.g, r.len, F, [], f, ⟨rfl, rfl⟩, List.nodup_nil, fun p hp => absurd hp (by simp), fun i p hp => absurd hp (by simp)⟩) r h⟩
def popG : OT → List OT → Option (OT × OT)
 | .lst us, [] => us.getLast?.map fun t => (t, .lst us.dropLast)
 | _, _ => none
def popAtG : OT → List OT → Option (OT × OT)
 | .lst us, [.d (.int i)] => if -(2 ^ 63) ≤ i ∧ i < 2 ^ 63 then (ixN us.length i).bind fun k => us[k]?.map fun t => (t, .lst (us.take k ++ us.drop (k + 1))) else none
 | _, _ => none
end
end FL
namespace FL
open PySem PySem.Spec PyProof.Rows L2
section
variable {K : PySem.W.Frag} {mg : Str → Option Value} {G H G' H' : Hp}
theorem ROs.cons_inv {t : OT} {ts : List OT} {v : V} {vs : List V} {fp : List Addr} (h : ROs K mg G H (t :: ts) (v :: vs) fp) : ∃ f1 f2, fp = f1 ++ f2 ∧ RO K mg G H t v f1 ∧ ROs K mg G H ts vs f2 := by
 obtain ⟨w, r, f1, f2, e1, e2, a, b⟩ := h
 cases e1
 exact ⟨f1, f2, e2, a, b⟩
theorem ROs.one_inv {t : OT} {vs : List V} {fp : List Addr} (h : ROs K mg G H [t] vs fp) : ∃ v, vs = [v] ∧ RO K mg G H t v fp := by
 obtain ⟨w, r, f1, f2, e1, e2, a, e3, e4⟩ := h
 subst e3 e4 e1
 rw [List.append_nil] at e2
 subst e2
 exact ⟨w, rfl, a⟩
theorem ROs.nil_inv {vs : List V} {fp : List Addr} (h : ROs K mg G H [] vs fp) : vs = [] ∧ fp = [] := h
end
section
variable {X : Cx}
theorem rG_end {K : PySem.W.Frag} {mg : Str → Option Value} {G H : Hp} {l : Addr} {o : HO} {fp fr fo : List Addr} {r u' : OT} {v x : V} {Q : VK} (gh : Same G H) (nt : ∀ vs, H l ≠ some (.tup vs)) (hl : l ∈ fp) (fg : ∀ p ∈ fp, NG G H p)
  (k : ∀ v G' H' fr fo, Same (outer H fp) H' → Same G G' → Same G' H' → (∀ p, H p ≠ none → p ∉ fp → KG G' G H p) → RO K mg G' H' r v fr → RO K mg G' H' u' x fo → (fr ++ fo).Nodup → (∀ p ∈ fr ++ fo, NG G' H' p ∧ (H p = none ∨ p ∈ fp)) → Q v H')
  (hr : RO K mg G (upd H l o) r v fr) (hu : RO K mg G (upd H l o) u' x fo) (nd : (fr ++ fo).Nodup) (sub : ∀ p ∈ fr ++ fo, p ∈ fp) : Q v (upd H l o) := by
 obtain ⟨s1, s2⟩ := upd_side (o := o) hl gh ((fg l hl).elim id fun ⟨vs, z⟩ => absurd z (nt vs))
 exact k v G _ fr fo s1 (Same.refl _) s2 (fun _ _ _ => .refl) hr hu nd fun p hp => ⟨(fg p (sub p hp)).upd nt, .inr (sub p hp)⟩
theorem pop_mtG : MtG X "list.pop" popG := by
 rintro pins s σ H x vs v us Q I rx rv ⟨G, u, ts, fp, r, u', gh, ro, nd, fg, hm, k⟩
 unfold popG at hm
 split at hm
 ·rename_i us0
  obtain ⟨t, et, e⟩ := Option.map_eq_some_iff.mp hm
  cases e
  obtain ⟨f1, f2, rfl, ⟨l, ws, gs, rfl, rfl, sz, hl, q⟩, b⟩ := ro.cons_inv
  obtain ⟨rfl, rfl⟩ := b.nil_inv
  rw [List.append_nil] at nd fg k
  obtain ⟨w, g1, g2, ew, rfl, q1, q2⟩ := q.last et
  obtain ⟨nl, nd2⟩ := List.nodup_cons.mp nd
  refine mt_pop pins s σ H _ _ v us Q I rx rv ⟨l, ws, w, rfl, rfl, hl, by rw [← List.getLast?_eq_getElem?]; exact ew, ?_⟩
  refine rG_end (fr := g2) (fo := l :: g1) gh (ntO hl) (by simp) fg k (q2.frame (Same.refl _) fun p hp => upd_ne fun (z : p = l) => nl (by rw [← z]; simp [hp])) ⟨l, _, g1, rfl, rfl, by rw [List.length_dropLast]; omega, upd_same, q1.frame (Same.refl _) fun p hp => upd_ne fun (z : p = l) => nl (by rw [← z]; simp [hp])⟩ ?_ fun p hp => ?_
  ·have hperm : (g2 ++ l :: g1).Perm (l :: (g1 ++ g2)) := List.perm_append_comm
   exact hperm.nodup_iff.mpr nd
  ·simp only [List.mem_append, List.mem_cons] at hp ⊢
   rcases hp with hp | hp | hp <;> simp [hp]
 ·cases hm
theorem popAt_mtG : MtG X "list.pop" popAtG := by
 rintro pins s σ H x vs v us Q I rx rv ⟨G, u, ts, fp, r, u', gh, ro, nd, fg, hm, k⟩
 unfold popAtG at hm
 split at hm
 ·rename_i us0 i
  split at hm
  ·rename_i hlt
   obtain ⟨j, hj, e⟩ := Option.bind_eq_some_iff.mp hm
   obtain ⟨t, et, e⟩ := Option.map_eq_some_iff.mp e
   cases e
   obtain ⟨f1, f2, rfl, ⟨l, ws, gs, rfl, rfl, sz, hl, q⟩, b⟩ := ro.cons_inv
   obtain ⟨wi, rfl, rfl, ri⟩ := b.one_inv
   cases ri
   rw [List.append_nil] at nd fg k
   obtain ⟨nl, nd2⟩ := List.nodup_cons.mp nd
   have hle : ws.length = us0.length := q.len
   have hjl : j < us0.length := (ixN_seq hj).2.1
   have e0 : us0 = us0.take j ++ ([r] ++ us0.drop (j + 1)) := by
    conv => lhs; rw [← List.take_append_drop j us0, List.drop_eq_getElem_cons hjl]
    rw [List.getElem?_eq_getElem hjl] at et
    rw [Option.some.inj et]; rfl
   have q1 := q
   rw [e0] at q1
   obtain ⟨g1, g23, e1, e2, e3⟩ := q1.split
   obtain ⟨g2, g3, e4, e5, e6⟩ := e3.split
   have hlen : (us0.take j).length = j := by rw [List.length_take]; omega
   rw [hlen] at e2 e5 e6
   rw [List.length_singleton, List.drop_drop] at e6
   rw [List.length_singleton] at e5
   obtain ⟨w, ew, rt⟩ := e5.one_inv
   have hw : ws[j]? = some w := by
    have := congrArg (fun l : List V => l[0]?) ew
    simpa [List.getElem?_take, List.getElem?_drop] using this
   subst e1 e4
   refine mt_popAt pins s σ H _ _ v us Q I rx rv ⟨l, ws, i, j, w, rfl, rfl, hl, hlt.1, hlt.2, by rw [hle]; exact (ixN_seq hj).1, hw, ?_⟩
   have fr : ∀ {p o}, p ∈ g1 ++ (g2 ++ g3) → upd H l o p = H p := fun {p o} hp => upd_ne fun (z : p = l) => nl (z ▸ hp)
   refine rG_end (fr := g2) (fo := l :: (g1 ++ g3)) gh (ntO hl) (by simp) fg k (rt.frame (Same.refl _) fun p hp => fr (by simp [hp])) ⟨l, _, g1 ++ g3, rfl, rfl, ?_, upd_same, ?_⟩ ?_ fun p hp => ?_
   ·simp only [List.length_append, List.length_take, List.length_drop]; omega
   ·rw [List.eraseIdx_eq_take_drop_succ]
    exact (e2.frame (Same.refl _) fun p hp => fr (by simp [hp])).append (e6.frame (Same.refl _) fun p hp => fr (by simp [hp]))
   ·have hperm : (g2 ++ l :: (g1 ++ g3)).Perm (l :: (g1 ++ (g2 ++ g3))) := by
     refine List.perm_middle.trans (List.Perm.cons _ ?_)
     rw [← List.append_assoc, ← List.append_assoc]
     exact List.Perm.append_right _ List.perm_append_comm
    exact hperm.nodup_iff.mpr nd
   ·simp only [List.mem_append, List.mem_cons] at hp ⊢
    rcases hp with hp | hp | hp | hp <;> simp [hp]
  ·cases hm
 ·cases hm
end
end FL
namespace FL
open PySem PySem.Spec PyProof.Rows L2
section
variable {X : Cx} {W : WW} {io : List Nat} {e o ei tg : Expr} {fx : En → ResX} {fi : En → Res D} {fp : En → Res (List Nat)} {pos pos' : Pos} {s : Nat}
end
end FL
namespace FL
open PySem PySem.Spec PyProof.Rows L2
section
variable {X : Cx} {pins : List (Addr × Obj)} {σ : L2.St} {H G : Hp} {s : Shared}
end
end FL
namespace FL
open PySem PySem.Spec PyProof.Rows L2
def atD (d : Addr) (x : HO) (A : Hp) : Hp := fun p => if p = d then (A d).map (fun _ => x) else A p
theorem at_ne {d p : Addr} {x : HO} {A : Hp} (h : p ≠ d) : atD d x A p = A p := if_neg h
theorem at_eq {d : Addr} {x : HO} {A : Hp} : atD d x A d = (A d).map (fun _ => x) := if_pos rfl
theorem at_some {d : Addr} {x y : HO} {A : Hp} (h : A d = some y) : atD d x A d = some x := by rw [at_eq, h]; rfl
theorem at_none {d p : Addr} {x : HO} {A : Hp} : atD d x A p = none ↔ A p = none := by
 by_cases e : p = d
 ·subst e; rw [at_eq]; cases A p <;> simp
 ·rw [at_ne e]
theorem at_same {d : Addr} {x y : HO} {A C : Hp} (s : Same A C) (h : C d = some y) : Same (atD d x A) (atD d x C) := fun p o e => by
 by_cases q : p = d
 ·subst q
  rw [at_eq] at e
  obtain ⟨z, hz, rfl⟩ := Option.map_eq_some_iff.mp e
  rw [at_some (s _ _ hz)]
 ·rw [at_ne q] at e ⊢; exact s p o e
def LkOf (kvs : List (Key × V)) (x : HO) : Prop := x = .dK kvs ∨ ∃ o, x = .frz o (.dK kvs)
section
variable {K : PySem.W.Frag} {mg : Str → Option Value} {d : Addr} {x y : HO} {kvs : List (Key × V)} {G H : Hp}
theorem Rd.at_dk (hx : LkOf kvs x) (hy : LkOf kvs y) (hG : G d = some y) {a : Addr} {w : HO} (h : Rd G a w) (hw : ∀ o u, w ≠ .frz o u) : Rd (atD d x G) a w := by
 by_cases e : a = d
 ·subst e
  have hw2 : w = .dK kvs := by
   rcases h with h | ⟨o, h⟩
   ·rw [hG] at h; cases h
    rcases hy with rfl | ⟨o, rfl⟩
    ·rfl
    ·exact absurd rfl (hw _ _)
   ·rw [hG] at h; cases h
    rcases hy with q | ⟨o, q⟩
    ·cases q
    ·cases q; rfl
  subst hw2
  rcases hx with rfl | ⟨o, rfl⟩
  ·exact .inl (at_some hG)
  ·exact .inr ⟨o, at_some hG⟩
 ·rcases h with h | ⟨o, h⟩
  ·exact .inl (by rw [at_ne e]; exact h)
  ·exact .inr ⟨o, by rw [at_ne e]; exact h⟩
theorem at_keep (hy : LkOf kvs y) (hG : G d = some y) {a : Addr} {w : HO} (h : G a = some w) (n1 : ∀ k, w ≠ .dK k) (n2 : ∀ o u, w ≠ .frz o u) : atD d x G a = some w := by
 rw [at_ne (fun e => by
  subst e
  rw [hG] at h; cases h
  rcases hy with rfl | ⟨o, rfl⟩
  ·exact n1 _ rfl
  ·exact n2 _ _ rfl)]
 exact h
mutual
theorem R.atD (hx : LkOf kvs x) (hy : LkOf kvs y) (hG : G d = some y) : ∀ {e : D} {v : V}, R K mg G e v → R K mg (atD d x G) e v
 | .non, _, h => h
 | .bl _, _, h => h
 | .int _, _, h => h
 | .str _, _, h => h
 | .lst _, _, ⟨a, vs, e, l, h, r⟩ => ⟨a, vs, e, l, at_keep hy hG h (fun _ => nofun) (fun _ _ => nofun), Rs.atD hx hy hG r⟩
 | .tup _, _, ⟨a, vs, e, l, h, r⟩ => ⟨a, vs, e, l, at_keep hy hG h (fun _ => nofun) (fun _ _ => nofun), Rs.atD hx hy hG r⟩
 | .dK _ _, _, ⟨a, vs, e, l, h, r⟩ => ⟨a, vs, e, l, Rd.at_dk hx hy hG h (fun _ _ => nofun), Rs.atD hx hy hG r⟩
 | .dT _ _, _, ⟨a, vs, e, l, h, r⟩ => ⟨a, vs, e, l, Rd.at_dk hx hy hG h (fun _ _ => nofun), Rs.atD hx hy hG r⟩
 | .ins _ _ _, _, ⟨a, ca, dx, vs, e, c, l, h, r⟩ => ⟨a, ca, dx, vs, e, c, l, at_keep hy hG h (fun _ => nofun) (fun _ _ => nofun), Rs.atD hx hy hG r⟩
 | .scr _, _, ⟨a, e, h⟩ => ⟨a, e, by
  rcases h with h | h
  ·exact .inl (Rd.at_dk hx hy hG h (fun _ _ => nofun))
  ·exact .inr h⟩
 | .exn _, _, h => h
 | .exq _ _ _, _, ⟨w, e, h, r⟩ => ⟨w, e, at_keep hy hG h (fun _ => nofun) (fun _ _ => nofun), R.atD hx hy hG r⟩
theorem Rs.atD (hx : LkOf kvs x) (hy : LkOf kvs y) (hG : G d = some y) : ∀ {es : List D} {vs : List V}, Rs K mg G es vs → Rs K mg (atD d x G) es vs
 | [], _, h => h
 | _ :: _, _, ⟨v, r, e, h, t⟩ => ⟨v, r, e, R.atD hx hy hG h, Rs.atD hx hy hG t⟩
end
mutual
theorem RO.atD (hx : LkOf kvs x) (hy : LkOf kvs y) (hG : G d = some y) : ∀ {t : OT} {v : V} {fp : List Addr}, (∀ p ∈ fp, p ≠ d) → RO K mg G H t v fp → RO K mg (atD d x G) (atD d x H) t v fp
 | .d _, _, _, _, ⟨e, h⟩ => ⟨e, R.atD hx hy hG h⟩
 | .lst _, _, fp, f, ⟨a, vs, fs, e, e2, l, h, r⟩ => ⟨a, vs, fs, e, e2, l, by rw [at_ne (f a (by rw [e2]; exact List.mem_cons_self))]; exact h, ROs.atD hx hy hG (fun p hp => f p (by rw [e2]; exact List.mem_cons_of_mem _ hp)) r⟩
 | .tup _, _, fp, f, ⟨a, vs, fs, e, e2, l, h, r⟩ => ⟨a, vs, fs, e, e2, l, by rw [at_ne (f a (by rw [e2]; exact List.mem_cons_self))]; exact h, ROs.atD hx hy hG (fun p hp => f p (by rw [e2]; exact List.mem_cons_of_mem _ hp)) r⟩
 | .dK _ _, _, fp, f, ⟨a, vs, fs, e, e2, l, h, r⟩ => ⟨a, vs, fs, e, e2, l, by rw [at_ne (f a (by rw [e2]; exact List.mem_cons_self))]; exact h, ROs.atD hx hy hG (fun p hp => f p (by rw [e2]; exact List.mem_cons_of_mem _ hp)) r⟩
 | .lk _ _, _, fp, f, ⟨a, vs, e, l, h, r⟩ => ⟨a, vs, e, l, Rd.at_dk hx hy hG h (fun _ _ => nofun), ROs.atD hx hy hG f r⟩
 | .dT _ _, _, fp, f, ⟨a, vs, fs, e, e2, l, h, r⟩ => ⟨a, vs, fs, e, e2, l, by rw [at_ne (f a (by rw [e2]; exact List.mem_cons_self))]; exact h, ROs.atD hx hy hG (fun p hp => f p (by rw [e2]; exact List.mem_cons_of_mem _ hp)) r⟩
 | .ins _ _ _, _, fp, f, ⟨a, ca, dx, vs, fs, e, c, e2, l, h, r⟩ => ⟨a, ca, dx, vs, fs, e, c, e2, l, by rw [at_ne (f a (by rw [e2]; exact List.mem_cons_self))]; exact h, ROs.atD hx hy hG (fun p hp => f p (by rw [e2]; exact List.mem_cons_of_mem _ hp)) r⟩
theorem ROs.atD (hx : LkOf kvs x) (hy : LkOf kvs y) (hG : G d = some y) : ∀ {ts : List OT} {vs : List V} {fp : List Addr}, (∀ p ∈ fp, p ≠ d) → ROs K mg G H ts vs fp → ROs K mg (atD d x G) (atD d x H) ts vs fp
 | [], _, _, _, h => h
 | _ :: _, _, _, f, ⟨v, r, f1, f2, e, e2, h, t⟩ => ⟨v, r, f1, f2, e, e2, RO.atD hx hy hG (fun p hp => f p (by rw [e2]; exact List.mem_append_left _ hp)) h, ROs.atD hx hy hG (fun p hp => f p (by rw [e2]; exact List.mem_append_right _ hp)) t⟩
end
variable {B : Bs} {σ : L2.St} {ρ : En}
def Bs.atD (d : Addr) (x : HO) (B : Bs) : Bs := ⟨FL.atD d x B.O, FL.atD d x B.G0, B.io⟩
theorem LkOf.nt {kvs : List (Key × V)} {y : HO} (h : LkOf kvs y) : ∀ vs, y ≠ .tup vs := by
 rintro vs rfl
 rcases h with h | ⟨o, h⟩ <;> cases h
theorem NG.ne {G H : Hp} {d p : Addr} {y : HO} {kvs : List (Key × V)} (hy : LkOf kvs y) (hG : G d = some y) (hH : H d = some y) (h : NG G H p) : p ≠ d := fun z => by
 subst z
 rcases h with h | ⟨vs, h⟩
 ·rw [hG] at h; cases h
 ·rw [hH] at h; cases h; exact hy.nt vs rfl
theorem NG.atD {G H : Hp} {d p : Addr} {x : HO} (h : NG G H p) (e : p ≠ d) : NG (atD d x G) (FL.atD d x H) p := h.imp (at_ne e).trans fun ⟨vs, z⟩ => ⟨vs, (at_ne e).trans z⟩
theorem Gr.atD (hy : LkOf kvs y) (hG : G d = some y) (r : Gr B G H σ) : Gr (B.atD d x) (atD d x G) (atD d x H) σ := by
 have hH := r.gh _ _ hG
 refine ⟨at_same r.gh hH, at_same r.oh hH, at_same r.g0 hG, fun p h => ?_, r.io⟩
 have h : FL.atD d x B.O p ≠ none := h
 by_cases e : p = d
 ·subst e
  rw [Ne, at_none] at h
  rcases r.og p h with z | ⟨vs, z⟩
  ·refine .inl ?_
   show FL.atD p x G p = FL.atD p x B.G0 p
   rw [at_eq, at_eq, z]
  ·have := r.oh _ _ z
   rw [hH] at this; cases this
   exact absurd rfl (hy.nt vs)
 ·rw [at_ne e] at h
  rcases r.og p h with z | ⟨vs, z⟩
  ·refine .inl ?_
   show FL.atD d x G p = FL.atD d x B.G0 p
   rw [at_ne e, at_ne e]; exact z
  ·exact .inr ⟨vs, (at_ne e).trans z⟩
theorem Slots.atD {F : Nat → List Addr} (hx : LkOf kvs x) (hy : LkOf kvs y) (hG : G d = some y) (hH : H d = some y) (f : Slots K mg B G H σ ρ F) : Slots K mg (B.atD d x) (atD d x G) (atD d x H) σ ρ F :=
 ⟨fun i t e => by
  obtain ⟨v, a, b⟩ := f.rep i t e
  exact ⟨v, a, b.atD hx hy hG fun p hp z => (f.at_ i p hp).2.1.ne hy hG hH z⟩, f.nd, fun i p hp => by
  obtain ⟨a, b, c⟩ := f.at_ i p hp
  exact ⟨fun z => a (at_none.mp z), b.atD (b.ne hy hG hH), at_none.mpr c⟩, f.dj⟩
theorem Rep.atD (hx : LkOf kvs x) (hy : LkOf kvs y) (hG : G d = some y) (r : Rep K mg B G H σ ρ) : Rep K mg (B.atD d x) (atD d x G) (atD d x H) σ ρ := by
 obtain ⟨F, f⟩ := r.sl
 exact ⟨r.g.atD hy hG, r.len, F, f.atD hx hy hG (r.g.gh _ _ hG)⟩
theorem RepV.atD {t : OT} {v : V} (hx : LkOf kvs x) (hy : LkOf kvs y) (hG : G d = some y) (r : RepV K mg B G H σ ρ t v) : RepV K mg (B.atD d x) (atD d x G) (atD d x H) σ ρ t v := by
 obtain ⟨F, fv, f, a, b, c, e⟩ := r.sl
 refine ⟨r.g.atD hy hG, r.len, F, fv, f.atD hx hy hG (r.g.gh _ _ hG), a.atD hx hy hG (fun p hp z => ?_), b, fun p hp => ?_, e⟩
 ·exact (c p hp).2.1.ne hy hG (r.g.gh _ _ hG) z
 ·obtain ⟨a, b, c⟩ := c p hp
  exact ⟨fun z => a (at_none.mp z), b.atD (b.ne hy hG (r.g.gh _ _ hG)), at_none.mpr c⟩
end
section
variable {X : Cx} {tg e : Expr} {td : TE}
end
end FL
namespace FL
open PySem PySem.Spec PyProof.Rows L2
section
variable {X : Cx} {W : WW} {io : List Nat} {B : Bs} {N : Ends} {G H G1 H1 : Hp} {σ : L2.St} {ρ : En} {F : En → Flw} {f : En → Res D} {e : Expr} {pos : Pos}
theorem EG.any {vs : List Nat} {tg : Expr} {g : D → En → Option En} (h : EG X vs tg g) : PG X tg fun v σ H Q => ∃ B : Bs, (∀ q ∈ B.io, q.1 ∉ vs) ∧ ∃ G ρ d ρ', Rep X.K X.mg B G H σ ρ ∧ R X.K X.mg G d v ∧ g d ρ = some ρ' ∧ ∀ σ', Rep X.K X.mg B G H σ' ρ' → wipe σ' vs = wipe σ vs → Q σ' H :=
 ⟨fun pins s σ H v u Q I r ⟨B, hB, q⟩ => (h.run B hB).run pins s σ H v u Q I r q⟩
variable {elt tg iter : Expr} {ifs : List Expr} {scope : Scope} {own : List (Str × Nat)} {g : D → En → Option En} {tt : En → Res Bool} {fe : En → Res OT}
end
end FL
namespace FL
open PySem PySem.Spec PyProof.Rows L2
def zipB (f : D → D → Option Bool) : List D → List D → Option Bool
 | [], [] => some true
 | x :: xs, y :: ys => (f x y).bind fun b => (zipB f xs ys).map fun c => b && c
 | _, _ => none
def keyB (f : D → D → Option Bool) (ls : List Key) (ys : List D) : List Key → List D → Option Bool
 | [], [] => some true
 | k :: ks, x :: xs => match look ls ys k with
  | some y => (f x y).bind fun b => (keyB f ls ys ks xs).map fun c => b && c
  | none => (keyB f ls ys ks xs).map fun _ => false
 | _, _ => none
def deq : Nat → D → D → Option Bool
 | 0, x, y => if (plain 60 x && plain 60 y) = true then some (eqv x y) else none
 | n + 1, x, y => if (plain 60 x && plain 60 y) = true then some (eqv x y) else match x, y with
  | .lst xs, .lst ys => if xs.length = ys.length then zipB (deq n) xs ys else some false
  | .tup xs, .tup ys => if xs.length = ys.length then zipB (deq n) xs ys else none
  | .dK ks xs, .dK ls ys => (keyB (deq n) ls ys ks xs).map fun b => (ks.length == ls.length) && b
  | _, _ => none
section
variable {X : Cx} {pins : List (Addr × Obj)} {σ : L2.St} {H G : Hp} {s : Shared}
end
end FL
namespace FL
open PySem PySem.Spec PyProof.Rows L2
section
open PySem.SeqAt
open AutoSeq1 (wpAny_loadPart')
open MeetsSeq MeetsSeq2 MeetsSeq3 SeqRoads2
variable {prog : Program} {w : World}
end
section
variable {X : Cx} {W : WW}
end
end FL
namespace FL
open PySem PySem.Spec PyProof.Rows L2
section
variable {X : Cx} {W : WW} {b : Expr} {fi : En → Res D} {x : Str} {pos ppos : Pos}
end
end FL
namespace FL
open PySem PySem.Spec PyProof.Rows L2
section
variable {X : Cx} {W : WW} {io : List Nat} {e : Expr} {fo : En → Res OT} {pos ppos apos cpos : Pos} {x : Str}
end
end FL
namespace FL
open PySem PySem.Spec PyProof.Rows L2
section
variable {X : Cx} {W : WW} {io : List Nat} {e0 e : Expr} {fi : En → Res D} {fo : En → Res OT} {pos ppos apos cpos : Pos} {x : Str}
end
end FL
namespace FL
open PySem PySem.Spec PyProof.Rows L2
def sU (n : Nat) (gs : List D → En → Option En) (d : D) (ρ : En) : Option En := match d with
 | .tup ds => if ds.length = n then gs ds ρ else none
 | .lst ds => if ds.length = n then gs ds ρ else none
 | _ => none
section
variable {X : Cx} {vs : List Nat} {pos : Pos} {es : List Expr} {gs : List D → En → Option En}
theorem EG.un {k n : Nat} (hc : X.calm = true) (h : EGs X vs es gs) (hn : (assignEach es X.env).length = n := by rfl) (hst : (assignEach es X.env).findIdx? (·.1) = none := by rfl) : EG X vs (.Tuple es k pos) (sU n gs) := ⟨fun B hio => by
 have h1 := pg_tup (k := k) (pos := pos) hc (h.run B hio) hn hst
 have h2 := pg_unl (k := k) (pos := pos) hc (h.run B hio) hn hst
 refine ⟨fun pins s σ H v u Q I r hw => ?_⟩
 obtain ⟨G, ρ, d, ρ', rp, hd, e, kk⟩ := hw
 unfold sU at e
 split at e
 ·split at e
  ·rename_i hl
   obtain ⟨p, ws, rfl, l, e1, q⟩ := hd.tup
   exact h1.run pins s σ H _ u Q I r ⟨p, ws, rfl, SqT.of (rp.gh _ _ e1), by rw [q.len]; exact hl, G, ρ, _, ρ', rp, q, e, kk⟩
  ·cases e
 ·split at e
  ·rename_i hl
   obtain ⟨p, ws, rfl, l, e1, q⟩ := hd.lst
   exact h2.run pins s σ H _ u Q I r ⟨p, ws, rfl, SqL.of (rp.gh _ _ e1), by rw [q.len]; exact hl, G, ρ, _, ρ', rp, q, e, kk⟩
  ·cases e
 ·cases e⟩
end
end FL
namespace FL
open PySem PySem.Spec PyProof.Rows L2
def inK : D → D → Option D
 | x, .lst ys => if plain 64 x && plain 64 (.lst ys) then some (.bl (ys.any fun y => eqv y x)) else none
 | x, .tup ys => if plain 64 x && plain 64 (.tup ys) then some (.bl (ys.any fun y => eqv y x)) else none
 | x, y => inD1 x y
mutual
theorem plain_up : ∀ {n : Nat} {d : D}, plain n d = true → plain (n + 1) d = true
 | _, .non, _ => rfl
 | _, .bl _, _ => rfl
 | _, .int _, _ => rfl
 | _, .str _, _ => rfl
 | _, .lst xs, h => by rw [plain] at h ⊢; exact plains_up h
 | _, .tup xs, h => by rw [plain] at h ⊢; exact plains_up h
 | _, .dK _ _, h => by simp [plain] at h
 | _, .dT _ _, h => by simp [plain] at h
 | _, .ins _ _ _, h => by simp [plain] at h
 | _, .scr _, h => by simp [plain] at h
 | _, .exn _, h => by simp [plain] at h
 | _, .exq _ _ _, h => by simp [plain] at h
theorem plains_up : ∀ {n : Nat} {ds : List D}, plains n ds = true → plains (n + 1) ds = true
 | 0, _, h => by simp [plains] at h
 | _ + 1, [], _ => rfl
 | _ + 1, d :: ds, h => by
  rw [plains, Bool.and_eq_true] at h ⊢
  exact ⟨plain_up h.1, plains_up h.2⟩
end
theorem any_py {x : D} (hx : plain 64 x = true) : ∀ (ys : List D), plains 64 ys = true → (pys ys).any (fun z => PyData.eqv z (py x)) = ys.any fun y => eqv y x
 | [], _ => rfl
 | y :: ys, h => by
  rw [plains, Bool.and_eq_true] at h
  rw [pys, List.any_cons, List.any_cons, any_py hx ys h.2, eqv_py 64 y x (plain_up h.1) hx]
section
variable {X : Cx}
theorem inK_ok (hu : X.A.units + 65 < cLine) : OpD X (compareOp .In) inK := by
 rintro pins s σ H x y v u Q I rx ry ⟨G, d, e, c, gh, r1, r2, hg, k⟩
 cases e with
 | lst ys =>
  change (if _ then _ else _) = _ at hg
  split at hg
  ·rename_i p; cases hg
   rw [Bool.and_eq_true] at p
   refine op_inD hu pins s σ H x y v u Q I rx ry ⟨py d, pys ys, py_dp gh 64 d x p.1 r1, py_dp gh 64 _ y p.2 r2, shaped_of p.1 r1, shaped_of p.2 r2, ?_⟩
   rw [any_py p.1 ys p.2]
   exact k _ _ _ (Stp.refl gh) rfl
  ·cases hg
 | tup ys =>
  change (if _ then _ else _) = _ at hg
  split at hg
  ·rename_i p; cases hg
   rw [Bool.and_eq_true] at p
   obtain ⟨as, h1⟩ := Dp.reads I (py d) x v (py_dp gh 64 d x p.1 r1) rx
   obtain ⟨bs, h2⟩ := Dp.reads I (py (.tup ys)) y u (py_dp gh 64 _ y p.2 r2) ry
   have sd := shaped_of p.1 r1
   refine SeqAt.in_tuple_reads h2 h1 (SeqAt.canLay_of_shaped (shaped_of p.2 r2)) (SeqAt.canLay_of_shaped sd) (room_in_shaped sd hu) ⟨.bl _, H, I, rfl, ?_⟩
   rw [any_py p.1 ys p.2]
   exact k _ _ _ (Stp.refl gh) rfl
  ·cases hg
 | _ => exact in_ok (by omega) pins s σ H x y v u Q I rx ry ⟨G, d, _, c, gh, r1, r2, hg, k⟩
end
end FL
namespace HT
open PySem PyProof.Rows
open PySem.SeqAt
open PySem.AutoSeq1 (wpAny_loadPart')
open PySem.MeetsSeq PySem.MeetsSeq2 PySem.MeetsSeq3
section
variable {prog : Program} {w : World} {A : Around} {E : Value → Shared → Prop} {s : Shared}
end
end HT
namespace L2
open PySem PySem.Spec PyProof.Rows
section
variable {X : Cx}
end
end L2
namespace FL
open PySem PySem.Spec PyProof.Rows L2
section
variable {X : Cx} {W : WW} {a : Expr} {fa : En → Res D} {p1 p2 p3 pos : Pos}
end
end FL
namespace FL
open PySem PySem.Spec PyProof.Rows L2
section
variable {X : Cx} {W : WW} {b : Expr} {fi : En → Res D} {x : Str} {pos ppos : Pos}
end
def dropG (F : List OT → ResG) (ts : List OT) : ResG := match F ts with
 | .ok r _ => .ok r []
 | .ex c _ => .ex c []
 | .bad => .bad
theorem pick_none {α : Type} : ∀ {m : List Bool} (vs : List α), (∀ b ∈ m, b = false) → pick m vs = []
 | [], vs, _ => by cases vs <;> rfl
 | b :: m, [], _ => by cases b <;> rfl
 | b :: m, v :: vs, h => by
  rw [h b List.mem_cons_self]
  exact pick_none vs fun c hc => h c (List.mem_cons_of_mem _ hc)
theorem CalG.drop {P : Program} {w : World} {K : PySem.W.Frag} {mg : Str → Option Value} {base : Heap} {CX : CXT} {on : Prop} {x : Str} {k : Nat} {m m' : List Bool} {F : List OT → ResG} (c : CalG P w K mg base CX on x k m F) (hm : ∀ b ∈ m', b = false) : CalG P w K mg base CX on x k m' (dropG F) := by
 obtain ⟨f, fd, ps, hf, h1, h2, h3⟩ := c.ex
 refine ⟨f, fd, ps, hf.imp fun vs H Q E ⟨G, ts, fp, a1, a2, a3, a4, h⟩ => ⟨G, ts, fp, a1, a2, a3, a4, ?_⟩, h1, h2, h3⟩
 unfold dropG at h
 cases e : F ts with
 | ok r outs =>
  rw [e] at h
  intro v G' H' fr fo o1 o2 o3 o4 rt ro nd at_
  refine h v G' H' fr [] o1 o2 o3 o4 rt (by rw [pick_none vs hm]; exact ⟨rfl, rfl⟩) (by rw [List.append_nil]; exact (List.nodup_append.mp nd).1) (fun p hp => at_ p ?_)
  rw [List.append_nil] at hp
  exact List.mem_append_left _ hp
 | ex c outs =>
  rw [e] at h
  refine ⟨h.1, fun G' H' fo cls dd o1 o2 o3 o4 ro nd at_ q => ?_⟩
  exact h.2 G' H' [] cls dd o1 o2 o3 o4 (by rw [pick_none vs hm]; exact ⟨rfl, rfl⟩) List.nodup_nil (fun p hp => absurd hp (by simp)) q
 | bad => rw [e] at h; exact h.elim
def fzX (f : En → ResX) (ρ : En) : ResX := match f ρ with
 | .ok t ρ1 => .ok (.d (fz t)) ρ1
 | .ex c ρ1 => .ex c ρ1
 | .bad => .bad
theorem EX.fz {X : Cx} {W : WW} {e : Expr} {f : En → ResX} (h : EX X W e f) : EX X W e (fzX f) := ⟨fun B => PE.mono (h.run B) fun σ H Q ⟨G, ρ, r, w⟩ => ⟨G, ρ, r, by
 unfold FL.fzX at w
 cases e1 : f ρ with
 | bad => rw [e1] at w; exact w
 | ex c ρ1 => rw [e1] at w; exact w
 | ok t ρ1 =>
  rw [e1] at w
  intro v G1 H1 r1
  obtain ⟨G2, r2, q⟩ := r1.frozen
  exact w v G2 H1 (r2.val q)⟩⟩
end FL
namespace FL
open PySem PySem.Spec PyProof.Rows L2
end FL
namespace FL
open PySem PySem.Spec PyProof.Rows L2
structure EXT (X : Cx) (W : WW) (e : Expr) (f : En → ResX) : Prop where
 run : ∀ B, PT X e fun σ H Q => ∃ G ρ, Rep X.K X.mg B G H σ ρ ∧ WrX X W B σ (f ρ) fun x H' => ∃ k, x = .bl k ∧ Q k H'
section
variable {X : Cx} {W : WW} {io : List Nat} {a b c : Expr} {fa fb : En → Res D} {f fc fd : En → ResX} {pos : Pos}
end
end FL
namespace FL
open PySem PySem.Spec PyProof.Rows L2
structure FldC (X : Cx) (C f : Str) : Prop where
 ex : ∃ ca, X.mg C = some (.ref ca) ∧ L2.Cls X.K ca ∧ NoAttr X.K ca f
theorem lookup_no {f : Str} : ∀ {ns : List Str} {ws : List V}, f ∉ ns → (ns.zip ws).lookup f = none
 | [], _, _ => rfl
 | k :: ks, [], _ => rfl
 | k :: ks, w :: ws, h => by
  rw [List.zip_cons_cons, List.lookup_cons, show (f == k) = false from beq_eq_false_iff_ne.mpr fun z => h (z ▸ List.mem_cons_self)]
  exact lookup_no fun z => h (List.mem_cons_of_mem _ z)
section
variable {X : Cx} {W : WW} {io : List Nat} {e o : Expr} {es : List Expr} {fe : En → Res D} {fp : En → Res (List Nat)} {fs : En → ResA} {fx : En → ResX} {pos pos' apos : Pos} {s : Nat} {C f x : Str}
end
end FL
namespace FL
open PySem PySem.Spec PyProof.Rows L2
section
variable {X : Cx} {CX : CXT} {k : Nat} {f C : Addr} {fd : FuncData} {ps : List Str} {sp : Sp} {E : L2.St → XK} {m : Str} {pos apos : Pos} {e o : Expr} {es : List Expr} {ta : TE} {t : TA}
theorem pe_methT {pl : Sem Bool} (he : PE X o ta) (c : L2.Cls X.K C) (hm : Meth X.K C m f) (F : FnOk X.prog X.w X.K X.mg X.base CX k f fd ps sp) (hr : Room k X.A) (hb : Binds X.K fd ps []) (hx : ∀ σ, PassesAt CX X σ (E σ)) (ha : PA X (e :: es) t)
  (hst : starEach (e :: es) X.env = (false, eval e X.env) :: starEach es X.env := by rfl) (hpl : (backTo pos (starEach es X.env)).any (·.1) = false := by rfl)
  (ht : eval (.Call (.Attribute o m apos) (e :: es) [] pos) X.env = (do
   let ov ← eval o X.env
   standAt apos.atName
   let (f, first) ← holding [ov] (getMethod ov m pl)
   callWith pos f first (backTo pos (starEach (e :: es) X.env)) (backToKw pos (keywordEach [] X.env))) := by rfl) :
  PE X (.Call (.Attribute o m apos) (e :: es) [] pos) (fun σ H Q => ta σ H fun x H1 => ∃ a dx fs, x = .ref a ∧ H1 a = some (.ins C dx fs) ∧ fs.lookup m = none ∧ t σ H1 fun vs H2 => sp (x :: vs) H2 Q (E σ)) := by
 refine ⟨fun pins s σ H Q I h => ?_⟩
 refine PySem.W.methodCall_KW (pl := pl) (thn (he.run pins s σ H _ I h) fun u s1 ⟨x, H1, I1, rx, a, dx, fs, ex, ea, l, q⟩ => ?_) ht
 subst ex
 obtain rfl : u = Value.ref a := rx
 refine getmeth_ok I1 ea c hm l ?_
 refine PySem.W.callWith_K (first := [.ref a]) (h₀ := X.base) I.ok.mod.kin hm.kp (thn (ha.run pos pins s1 σ H1 _ I1 q) fun us s2 ⟨vs, H2, I2, r, q2⟩ => ⟨I2.kIn, ?_⟩) hst hpl
 exact run_fnS (us := .ref a :: us) (vs := .ref a :: vs) F hr hb (hx σ) I2 (.cons rfl r) q2
end
structure CalM (P : Program) (w : World) (K : PySem.W.Frag) (mg : Str → Option Value) (base : Heap) (CX : CXT) (on : Prop) (C m : Str) (k : Nat) (mk : List Bool) (F : List OT → ResG) : Prop where
 ex : ∃ ca f fd ps, FnOk P w K mg base CX k f fd ps (spG K mg on mk F) ∧ mg C = some (.ref ca) ∧ L2.Cls K ca ∧ Meth K ca m f ∧ Binds K fd ps []
theorem CalM.nx {P : Program} {w : World} {K : PySem.W.Frag} {mg : Str → Option Value} {base : Heap} {C m : Str} {k : Nat} {mk : List Bool} {F : List OT → ResG} (c : CalM P w K mg base CX0 False C m k mk F) : CalM P w K mg base CX0 True C m k mk (nxG F) := by
 obtain ⟨ca, f, fd, ps, hf, h⟩ := c.ex
 refine ⟨ca, f, fd, ps, hf.imp fun vs H Q E ⟨G, ts, fp, a1, a2, a3, a4, h⟩ => ⟨G, ts, fp, a1, a2, a3, a4, ?_⟩, h⟩
 unfold nxG at h
 cases e : F ts with
 | ok r t' => rw [e] at h; exact h
 | ex c t' => rw [e] at h; exact h.elim
 | bad => rw [e] at h; exact h
def callM (C m : Str) (mk : List Bool) (F : List OT → ResG) (s : Nat) (fp : En → Res (List Nat)) (fs : En → ResA) (ρ : En) : ResX := match fp ρ with
 | .ok p => match ρ[s]? with
  | some (some t0) => match t0.sub p with
   | some (.ins C' ns _) => if C' = C ∧ m ∉ ns then callG mk F (lendX s fp fs) ρ else .bad
   | _ => .bad
  | _ => .bad
 | _ => .bad
section
variable {X : Cx} {W : WW} {s k : Nat} {e o : Expr} {es : List Expr} {fp : En → Res (List Nat)} {fs : En → ResA} {pos apos : Pos} {C m : Str} {CX : CXT} {on : Prop} {mk : List Bool} {F : List OT → ResG}
theorem lend_step {B : Bs} {G1 H1 : Hp} {σ : L2.St} {ρ : En} {t0 u : OT} {p : List Nat} {v0 v : V} {Q : List V → Hp → Prop} (r1 : Rep X.K X.mg B G1 H1 σ ρ) (et : ρ[s]? = some (some t0)) (eu : t0.sub p = some u) (q1 : σ[s]? = some (some v0)) (q2 : walkV H1 v0 p = some v)
  (w : WrA X W B σ (tailX (.lent s t0 p) (fs (ρ.set s none))) Q) : ∃ B, ∃ G ρ, Rep X.K X.mg B G H1 σ ρ ∧ WrA X W B σ (fs ρ) fun vs H' => Q (v :: vs) H' := by
 obtain ⟨F, f1⟩ := r1.sl
 obtain ⟨v1, a1, a2⟩ := f1.rep s t0 et
 rw [q1] at a1
 cases a1
 have f2 : Slots X.K X.mg B G1 H1 σ (ρ.set s none) (fun j => if j = s then [] else F j) := by
  refine ⟨fun i u e => ?_, fun i => ?_, fun i p hp => ?_, fun i j p ne hp hq => ?_⟩
  ·rcases get_set e with ⟨_, _, e2⟩ | ⟨ne, e⟩
   ·cases e2
   ·obtain ⟨w, a, b⟩ := f1.rep i u e
    exact ⟨w, a, by rw [if_neg (fun z => ne z.symm)]; exact b⟩
  ·(try dsimp only); split
   ·exact List.nodup_nil
   ·exact f1.nd i
  ·(try dsimp only at hp); split at hp
   ·cases hp
   ·exact f1.at_ i p hp
  ·(try dsimp only at hp hq)
   split at hp
   ·cases hp
   ·split at hq
    ·cases hq
    ·exact f1.dj i j p ne hp hq
 refine ⟨holdB B G1 H1 (F s), G1, _, tail_next (a := .lent s t0 p) (v := v) r1.g (by rw [List.length_set]; exact r1.len) f2 ⟨v0, u, q1, a2, eu, q2⟩ (f1.nd s) (f1.at_ s) (fun i x hx hi => ?_) w⟩
 (try dsimp only at hi); split at hi
 ·cases hi
 ·rename_i ne; exact f1.dj i s x ne hi hx
theorem callG_WrA {B : Bs} {σ : L2.St} {ρ : En} {Q : VK} {gs : En → ResA} (hon : W.on → on) (h : WrX X W B σ (callG mk F gs ρ) Q) : WrA X W B σ (gs ρ) fun vs H2 => spG X.K X.mg on mk F vs H2 Q (WE W.w σ) := by
 unfold FL.callG at h
 cases ef : gs ρ with
 | bad => rw [ef] at h; exact h.elim
 | ex c ρ1 => rw [ef] at h; exact h
 | ok as ρ1 =>
  rw [ef] at h
  exact fun vs G1 H1 r1 => callA_ok hon r1 h
theorem meth_next {B : Bs} {G H : Hp} {σ : L2.St} {ρ : En} {Q : VK} {ca : Addr} (hC : X.mg C = some (.ref ca)) (hon : W.on → on) (r : Rep X.K X.mg B G H σ ρ) (w : WrX X W B σ (callM C m mk F s fp fs ρ) Q) :
  lift X W (relW σ s) B fp σ H fun x H1 => ∃ a dx fs', x = .ref a ∧ H1 a = some (.ins ca dx fs') ∧ fs'.lookup m = none ∧ ∃ B, ∃ G ρ, Rep X.K X.mg B G H1 σ ρ ∧ WrA X W B σ (fs ρ) fun vs H2 => spG X.K X.mg on mk F (x :: vs) H2 Q (WE W.w σ) := by
 refine ⟨G, ρ, r, ?_⟩
 unfold callM at w
 cases e1 : fp ρ with
 | bad => rw [e1] at w; exact w.elim
 | ex c => rw [e1] at w; exact w.elim
 | ok p =>
  rw [e1] at w
  (try dsimp only at w)
  intro v G1 H1 s1 ⟨v0, q1, q2⟩
  have r1 := r.step s1
  split at w
  ·rename_i t0 et
   split at w
   ·rename_i C' ns us eu
    split at w
    ·rename_i hcond
     obtain ⟨rfl, hm⟩ := hcond
     have w2 := callG_WrA hon w
     unfold lendX at w2
     rw [e1] at w2
     (try dsimp only at w2)
     rw [et] at w2
     (try dsimp only at w2)
     rw [eu] at w2
     (try dsimp only at w2)
     obtain ⟨v0', w0, gu, h1, h2, ⟨a, ca', dx, vs, fs', e3, hC', e2, hl, hH, rs⟩, _⟩ := r1.sub et eu
     rw [q1] at h1
     cases h1
     rw [q2] at h2
     cases h2
     rw [hC] at hC'
     cases hC'
     exact ⟨a, dx, _, e3, hH, lookup_no hm, lend_step r1 et eu q1 q2 w2⟩
    ·exact w.elim
   ·exact w.elim
  ·exact w.elim
theorem EX.meth {pl : Sem Bool} (s : Nat) (c : CalM X.prog X.w X.K X.mg X.base CX on C m k mk F) (hr : Room k X.A) (hx : ∀ σ, PassesAt CX X σ (WE W.w σ)) (hon : W.on → on) (h : EP X W s o fp) (h2 : EXA X W (e :: es) fs)
  (hst : starEach (e :: es) X.env = (false, eval e X.env) :: starEach es X.env := by rfl) (hpl : (backTo pos (starEach es X.env)).any (·.1) = false := by rfl)
  (ht : eval (.Call (.Attribute o m apos) (e :: es) [] pos) X.env = (do
   let ov ← eval o X.env
   standAt apos.atName
   let (f, first) ← holding [ov] (getMethod ov m pl)
   callWith pos f first (backTo pos (starEach (e :: es) X.env)) (backToKw pos (keywordEach [] X.env))) := by rfl) : EX X W (.Call (.Attribute o m apos) (e :: es) [] pos) (callM C m mk F s fp fs) := ⟨fun B => by
 obtain ⟨ca, f, fd, ps, hf, hC, hc, hm, hb⟩ := c.ex
 exact PE.mono (pe_methT (pl := pl) (E := WE W.w) (h.run B) hc hm hf hr hb hx (t := fun σ H Q => ∃ B, ∃ G ρ, Rep X.K X.mg B G H σ ρ ∧ WrA X W B σ (fs ρ) Q) ⟨fun pos pins s σ H Q I ⟨B', q⟩ => (h2.run B').run pos pins s σ H Q I q⟩ hst hpl ht) fun σ H Q ⟨G, ρ, r, w⟩ => meth_next hC hon r w⟩
end
end FL
namespace FL
open PySem PySem.Spec PyProof.Rows L2
structure CalMk (P : Program) (w : World) (K : PySem.W.Frag) (mg : Str → Option Value) (base : Heap) (C : Str) (k : Nat) (F : List OT → ResG) : Prop where
 ex : ∃ ca f fd ps, FnOk P w K mg base CX0 k f fd ps (spG K mg False [true] F) ∧ mg C = some (.ref ca) ∧ Mk K ca f ∧ Binds K fd ps []
def makeO (C : Str) (F : List OT → ResG) (_ : En) : Res OT := match F [.ins C [] []] with
 | .ok (.d .non) [t] => .ok t
 | _ => .bad
theorem EO.make {X : Cx} {W : WW} {C : Str} {k : Nat} {F : List OT → ResG} {p pos : Pos} (c : CalMk X.prog X.w X.K X.mg X.base C k F) (hr : Room (k + 1) X.A) (hg : Gl X C := by rfl) (hdb : (C == ("__debug__" : Str)) = false := by decide) :
  EO X W (.Call (.Name C p) [] [] pos) (makeO C F) := ⟨fun B => by
 obtain ⟨ca, f, fd, ps, hf, hC, M, hb⟩ := c.ex
 refine PE.mono (pe_make0 (dvs := []) (ds := []) (E := fun _ _ _ => False) M hf hr hg hC hb .nil (fun _ _ _ _ _ _ _ z => z.elim) hdb) fun σ H Q ⟨G, ρ, r, w⟩ => ?_
 intro x dx hx hdx hne
 have gx : G x = none := r.gh.free hx
 have hxx : upd (upd H dx (.own x)) x (.ins ca dx []) x = some (.ins ca dx []) := upd_same
 have hoth : ∀ p, p ≠ x → p ≠ dx → upd (upd H dx (.own x)) x (.ins ca dx []) p = H p := fun p h1 h2 => by rw [upd_ne h1, upd_ne h2]
 have hlive : ∀ p, H p ≠ none → p ≠ x ∧ p ≠ dx := fun p h => ⟨fun z => h (z ▸ hx), fun z => h (z ▸ hdx)⟩
 refine ⟨G, [.ins C [] []], [x], fun p o e => ?_, ⟨.ref x, [], [x], [], rfl, rfl, ⟨x, ca, dx, [], [], rfl, hC, rfl, rfl, hxx, rfl, rfl⟩, rfl, rfl⟩, by simp, fun p hp => by rw [List.mem_singleton.mp hp]; exact .inl gx, ?_⟩
 ·have hp := r.gh p o e
  obtain ⟨h1, h2⟩ := hlive p (by rw [hp]; exact fun z => nomatch z)
  rw [hoth p h1 h2]; exact hp
 ·unfold makeO at w
  split at w
  ·rename_i t eF
   rw [eF]
   intro v G' H2 fr fo o1 o2 o3 o4 rv rt nd at_
   obtain ⟨rfl, rv⟩ := rv
   obtain ⟨v1, r1, f1, f2, e1, rfl, rt, e2, rfl⟩ := rt
   have e1 : [V.ref x] = v1 :: r1 := e1
   cases e1
   refine ⟨rv, w (.ref x) G' H2 ⟨fun p o e => ?_, o2, o3, fun p hp => ?_⟩ ⟨f1, rt, by simpa using nd, fun p hp => ?_⟩⟩
   ·obtain ⟨h1, h2⟩ := hlive p (by rw [e]; exact fun z => nomatch z)
    refine o1 p o ?_
    show (if p ∈ [x] then none else _) = _
    rw [if_neg (fun z => h1 (List.mem_singleton.mp z)), hoth p h1 h2]; exact e
   ·obtain ⟨h1, h2⟩ := hlive p hp
    exact (o4 p (by rw [hoth p h1 h2]; exact hp) fun z => h1 (List.mem_singleton.mp z)).at (hoth p h1 h2).symm
   ·obtain ⟨g1, g2⟩ := at_ p (by simpa using hp)
    refine ⟨?_, g1⟩
    rcases g2 with g2 | g2
    ·have h1 : p ≠ x := fun z => by rw [z, hxx] at g2; cases g2
     have h2 : p ≠ dx := fun z => by rw [z, upd_ne hne, upd_same] at g2; cases g2
     rwa [hoth p h1 h2] at g2
    ·rw [List.mem_singleton.mp g2]; exact hx
  ·exact w.elim⟩
end FL
namespace FL
open PySem PySem.Spec PyProof.Rows L2
section
variable {K : PySem.W.Frag} {mg : Str → Option Value} {h : Heap} {C m q : Str} {st : Stmt} {ps : List Str} {fd : FuncData}
structure Mn (K : PySem.W.Frag) (mg : Str → Option Value) (C m q : Str) (st : Stmt) (ps : List Str) : Prop where
 ex : ∃ ca f fd, Fun K m q st f fd ∧ mg C = some (.ref ca) ∧ L2.Cls K ca ∧ Meth K ca m f ∧ Binds K fd ps []
structure Ini (K : PySem.W.Frag) (mg : Str → Option Value) (C q : Str) (st : Stmt) : Prop where
 ex : ∃ ca f fd, Fun K "__init__" q st f fd ∧ mg C = some (.ref ca) ∧ Mk K ca f ∧ Binds K fd [("self" : Str)] []
structure Fdc (K : PySem.W.Frag) (mg : Str → Option Value) (C f : Str) : Prop where
 ex : ∃ ca, mg C = some (.ref ca) ∧ L2.Cls K ca ∧ NoAttr K ca f
theorem Fdc.of (X : K.In h) (G : h.Ns mainGlobals mg) {f : Str} (c1 : (He.Fa.glo C).ok K = true) (c2 : (He.Fa.cls C).ok K = true) (c3 : (He.Fa.noat C f).ok K = true) : Fdc K mg C f := ⟨He.ga K C, He.glo_ok X G c1, He.cls_ok c2, He.noat_ok c3⟩
def dM (C m q : Str) (st : Stmt) : He.DefD := ⟨(C, some m), m, q, defArgs st, defBody st, defScope st, [], []⟩
end
end FL
namespace FL
open PySem PySem.Spec PyProof.Rows L2
def methS : Stmt → Nat → Stmt
 | .ClassDef _ _ _ body _ _ _ _ _ _ _, j => body.getD j (.Pass ⟨0, 0, 0, 0⟩)
 | s, _ => s
structure CalT (P : Program) (w : World) (K : PySem.W.Frag) (mg : Str → Option Value) (base : Heap) (CX : CXT) (on : Prop) (C m : Str) (k : Nat) (F : List D → Res OT) : Prop where
 ex : ∃ ca f fd ps, FnOk P w K mg base CX k f fd ps (spP K mg on F) ∧ mg C = some (.ref ca) ∧ L2.Cls K ca ∧ Meth K ca m f ∧ Binds K fd ps []
theorem CalT.nx {P : Program} {w : World} {K : PySem.W.Frag} {mg : Str → Option Value} {base : Heap} {C m : Str} {k : Nat} {F : List D → Res OT} (c : CalT P w K mg base CX0 False C m k F) : CalT P w K mg base CX0 True C m k (nx0 F) := by
 obtain ⟨ca, f, fd, ps, hf, h⟩ := c.ex
 refine ⟨ca, f, fd, ps, hf.imp fun vs H Q E ⟨G, ds, a1, a2, h⟩ => ⟨G, ds, a1, a2, ?_⟩, h⟩
 unfold nx0 at h
 cases e : F ds with
 | ok r => rw [e] at h; exact h
 | ex c => rw [e] at h; exact h.elim
 | bad => rw [e] at h; exact h
def isIn (C m : Str) : D → Bool
 | .ins C' ns _ => decide (C' = C) && !decide (m ∈ ns)
 | _ => false
def insI (C m : Str) (fo : En → Res D) (ρ : En) : Res D := (fo ρ).bind fun d => if isIn C m d = true then .ok d else .bad
section
variable {X : Cx} {W : WW} {k : Nat} {e o : Expr} {es : List Expr} {fo : En → Res D} {fs : En → Res (List D)} {pos apos : Pos} {C m : Str} {CX : CXT} {on : Prop} {F : List D → Res OT}
theorem isIn_inv {d : D} (h : isIn C m d = true) : ∃ ns ds, d = .ins C ns ds ∧ m ∉ ns := by
 cases d <;> first | cases h | skip
 rename_i C' ns ds
 unfold isIn at h
 rw [Bool.and_eq_true, decide_eq_true_eq, Bool.not_eq_true', decide_eq_false_iff_not] at h
 exact ⟨ns, ds, by rw [h.1], h.2⟩
theorem EO.meth {pl : Sem Bool} (c : CalT X.prog X.w X.K X.mg X.base CX on C m k F) (hr : Room k X.A) (hx : ∀ σ, PassesAt CX X σ (WE W.w σ)) (hon : W.on → on) (ho : EF X W o fo) (ha : EA X W (e :: es) fs)
  (hst : starEach (e :: es) X.env = (false, eval e X.env) :: starEach es X.env := by rfl) (hpl : (backTo pos (starEach es X.env)).any (·.1) = false := by rfl)
  (ht : eval (.Call (.Attribute o m apos) (e :: es) [] pos) X.env = (do
   let ov ← eval o X.env
   standAt apos.atName
   let (f, first) ← holding [ov] (getMethod ov m pl)
   callWith pos f first (backTo pos (starEach (e :: es) X.env)) (backToKw pos (keywordEach [] X.env))) := by rfl) : EO X W (.Call (.Attribute o m apos) (e :: es) [] pos) (FL.call F (consA (insI C m fo) fs)) := ⟨fun B => by
 obtain ⟨ca, f, fd, ps, hf, hC, hc, hm, hb⟩ := c.ex
 refine PE.mono (pe_methT (pl := pl) (E := WE W.w) (ho.run B) hc hm hf hr hb hx (ha.run B) hst hpl ht) fun σ H Q ⟨G, ρ, r, h⟩ => ?_
 have eq : FL.call F (consA (insI C m fo) fs) ρ = (fo ρ).bind fun d => if isIn C m d = true then (fs ρ).bind fun xs => F (d :: xs) else .bad := by
  unfold FL.call consA insI
  cases fo ρ with
  | ok d =>
   rw [Res.bind_ok, Res.bind_ok]
   by_cases hi : isIn C m d = true
   ·rw [if_pos hi, if_pos hi, Res.bind_ok]
    cases fs ρ <;> rfl
   ·rw [if_neg hi, if_neg hi]; rfl
  | ex c => rfl
  | bad => rfl
 rw [eq] at h
 refine lift.next (rel := relD X.K X.mg) (g := fun d ρ => if isIn C m d = true then (fs ρ).bind fun xs => F (d :: xs) else .bad) later_O r h fun d x G1 H1 r1 s1 q1 w1 => ?_
 by_cases hi : isIn C m d = true
 ·rw [if_pos hi] at w1
  obtain ⟨ns, ds, rfl, hm2⟩ := isIn_inv hi
  have q1' := q1
  obtain ⟨a, ca', dx, vs, rfl, hC', hl, ga, rs⟩ := q1'
  rw [hC] at hC'
  cases hC'
  refine ⟨a, dx, _, rfl, r1.gh _ _ ga, lookup_no hm2, ?_⟩
  refine lift.next (rel := relL X.K X.mg) (g := fun xs _ => F (.ins C ns ds :: xs)) later_O r1 w1 fun xs vs G2 H2 r2 s2 q2 w2 => ⟨G2, .ins C ns ds :: xs, r2.gh, Rs.cons (R.mono s2.gg q1) q2, ?_⟩
  cases e : F (.ins C ns ds :: xs) with
  | ok t => rw [e] at w2; exact w2
  | ex c => rw [e] at w2; exact ⟨hon w2.1, w2.2⟩
  | bad => rw [e] at w2; exact w2
 ·rw [if_neg hi] at w1; exact w1.elim⟩
end
end FL
namespace FL
open PySem PySem.Spec PyProof.Rows L2
section
variable {K : PySem.W.Frag} {mg : Str → Option Value} {h : Heap} {x y : Str} {st : Stmt} {ps : List Str} {fd : FuncData}
structure Dal (K : PySem.W.Frag) (mg : Str → Option Value) (x y : Str) (st : Stmt) (ps : List Str) : Prop where
 ex : ∃ f fd, Fun K y y st f fd ∧ mg x = some (.ref f) ∧ PySem.W.keepIn K (.ref f) = true ∧ Binds K fd ps []
end
end FL
namespace FL
open PySem PySem.Spec PyProof.Rows L2
def ddS : List Str → List Str := List.foldl (fun a k => if k ∈ a then a else a ++ [k]) []
theorem ddS_snoc (l : List Str) (k : Str) : ddS (l ++ [k]) = if k ∈ ddS l then ddS l else ddS l ++ [k] := by
 unfold ddS
 rw [List.foldl_append]
 rfl
theorem ddS_snoc_mem (l : List Str) (k j : Str) : j ∈ ddS (l ++ [k]) ↔ j ∈ ddS l ∨ j = k := by
 rw [ddS_snoc]
 split
 ·rename_i h
  exact ⟨.inl, fun q => q.elim id fun e => e ▸ h⟩
 ·rw [List.mem_append, List.mem_singleton]
theorem ddS_take {l : List Str} {i : Nat} {k : Str} (h : l[i]? = some k) : l.take (i + 1) = l.take i ++ [k] := by
 rw [List.take_add_one, h]
 rfl
theorem ddS_len (l : List Str) : ∀ i, (ddS (l.take i)).length ≤ i
 | 0 => by simp [ddS]
 | i + 1 => by
  have ih := ddS_len l i
  cases e : l[i]? with
  | none =>
   rw [List.take_add_one, e]
   simp
   omega
  | some k =>
   rw [ddS_take e, ddS_snoc]
   split
   ·omega
   ·rw [List.length_append, List.length_singleton]; omega
def SetS (P : Program) (w : World) (h : Heap) (a : Addr) (ss : List Str) : Prop := h.SetOf (strKind P w) a (fun j => decide (j ∈ ddS ss)) (ddS ss).length
section
variable {P : Program} {w : World} {A : Around} {E : Value → Shared → Prop} {s : Shared}
theorem SetS.at {h h' : Heap} {a : Addr} {ss : List Str} (x : SetS P w h a ss) (k : ∀ o, h.get? a = some o → h'.get? a = some o) : SetS P w h' a ss := by
 obtain ⟨o, es, ep, t, ho, rest⟩ := x
 exact ⟨o, es, ep, t, k o ho, rest⟩
theorem set_update_strs {I : Addr} {fp wr : List Addr} {G : Array GenState → Array GenState → Prop} {n : Nat} {Pv : Nat → Value → Prop} {St : Nat → Shared → Prop} {R : Result → Shared → Prop}
  (W : WalksS P w A.in1 I fp wr G n Pv St) (S : Addr) (out : S ∉ fp) (ss : List Str) (hn : n = ss.length) (hb : ss.length + 1 < scanBound) (val : ∀ i v, Pv i v → ∃ k t, ss[i]? = some k ∧ v = .str k t) :
  ∀ (k i : Nat) (u : Shared), n - i = k → i ≤ n → St i u → SetS P w u.heap S (ss.take i) → (∀ t, Moved (S :: wr) G u t → SetS P w t.heap S ss → R (.ok (.ret .none)) t) →
   codeAny (model P w) A (.builtin "set.update.loop" ⟨[.ref S, .ref I], []⟩) R u := by
 have so : S ∉ wr := fun q => out (W.sub _ q)
 have up : ∀ b ∈ wr, b ∈ S :: wr := fun b q => List.mem_cons_of_mem _ q
 intro k
 induction k with
 | zero =>
  intro i u e1 e2 e3 e4 fin
  obtain rfl : i = n := by omega
  refine codeAny_builtin F.entry_set_update_loop ?_
  rw [Around.under_plainId F.plain_set_update_loop _]
  show wpAny _ A.in1 (pyNext (.ref I) >>= _) _ _ u
  refine wpAny_bind (W.done u _ _ e3 fun t m => ?_)
  show wpAny _ A.in1 (PySem.ret Value.none) _ _ t
  rw [List.take_of_length_le (by omega)] at e4
  exact wpAny_pure (fin t (m.mono up) (e4.at fun o q => m.heap S o so q))
 | succ k ih =>
  intro i u e1 e2 e3 e4 fin
  have lt : i < n := by omega
  refine codeAny_builtin F.entry_set_update_loop ?_
  rw [Around.under_plainId F.plain_set_update_loop _]
  show wpAny _ A.in1 (pyNext (.ref I) >>= _) _ _ u
  refine wpAny_bind (W.item i u _ _ lt e3 fun v t hP e5 m => ?_)
  obtain ⟨z, tk, hz, rfl⟩ := val i v hP
  have e6 : SetS P w t.heap S (ss.take i) := e4.at fun o q => m.heap S o so q
  show wpAny _ A.in1 (holding [Value.str z tk] (setAdd S (.str z tk)) >>= _) _ _ t
  refine wpAny_bind (wpAny_holding ?_)
  unfold setAdd
  refine wpAny_holding ?_
  refine wpAny_bind ((strKind P w).pyHash (k := z) (strKind_is P w z tk) ?_)
  have room : (ddS (ss.take i)).length + 1 < scanBound := by have := ddS_len ss i; omega
  refine wpAny_setAddHashed_of (knd := strKind P w) (s := { t with toks := t.toks + 1 }) (strKind_is P w z tk) rfl e6 room fun h' sb e7 => ?_
  have e8 : SetS P w h' S (ss.take (i + 1)) := by
   unfold SetS
   rw [ddS_take hz]
   refine SetOf_congr e7 (fun j => ?_) ?_
   ·rw [Bool.eq_iff_iff, Bool.or_eq_true, decide_eq_true_eq, decide_eq_true_eq, decide_eq_true_eq]
    exact (ddS_snoc_mem _ _ _).symm
   ·rw [ddS_snoc]
    by_cases c : z ∈ ddS (ss.take i)
    ·rw [if_pos c, if_pos (decide_eq_true c)]
    ·rw [if_neg c, if_neg (by rw [decide_eq_false c]; decide), List.length_append, List.length_singleton]
  refine wpAny_pure ⟨plainId_quiet F.plain_set_update_loop _, ih (i + 1) _ (by omega) lt (W.frame _ t _ _ e5 (Nat.le_succ _) fun b hb o e => ?_) e8 fun t2 m2 e9 => fin t2 (Moved.trans W.gtrans ?_ m2) e9⟩
  ·rw [sb.2 b fun q : b = S => out (q ▸ hb)]; exact e
  ·refine (m.mono up).then_heap (Nat.le_succ _) fun b o hb e => ?_
   rw [sb.2 b fun q : b = S => hb (q ▸ List.mem_cons_self)]; exact e
theorem strs_get : ∀ {us : List Value} {ks : List Str}, StrsAre us ks → ∀ (i : Nat) (v : Value), us[i]? = some v → ∃ k t, ks[i]? = some k ∧ v = .str k t
 | _, _, .nil, i, v, h => by simp at h
 | _, _, .cons n t hr, 0, v, h => by simp at h; exact ⟨n, t, rfl, h.symm⟩
 | _, _, .cons n t hr, i + 1, v, h => by
  simp only [List.getElem?_cons_succ] at h
  obtain ⟨k, u, e1, e2⟩ := strs_get hr i v h
  exact ⟨k, u, by rw [List.getElem?_cons_succ]; exact e1, e2⟩
theorem strs_len : ∀ {us : List Value} {ks : List Str}, StrsAre us ks → us.length = ks.length
 | _, _, .nil => rfl
 | _, _, .cons n t hr => by rw [List.length_cons, List.length_cons, strs_len hr]
set_option maxHeartbeats 3200000 in
theorem setS_init {l : Addr} {its : Array Value} (ns : List Str) {R : Result → Shared → Prop} (hh : A.handled = none) (hl : s.heap.IsList l its) (hi : StrsAre its.toList ns) (hb : ns.length + 1 < scanBound)
  (hR : ∀ h' tk, SetS P w h' s.heap.objs.size ns → (∀ b o, s.heap.get? b = some o → h'.get? b = some o) → R (.ok (.ret .none)) { s with heap := h', toks := tk }) :
  codeAny (model P w) A (.call (.builtin "set.__init__") ⟨[.ref s.heap.objs.size, .ref l], []⟩) R { s with heap := hp1 w s.heap } := by
 have sz : its.size = ns.length := by
  have q := strs_len hi
  rwa [Array.length_toList] at q
 have g0 : (hp1 w s.heap).get? s.heap.objs.size = some (nobj w) := Heap.get?_push_size _ rfl
 have ty : Shared.TypeIs { s with heap := hp1 w s.heap } (.ref s.heap.objs.size) "set" := ⟨_, g0, rfl⟩
 refine codeAny_call_builtin F.called_set.init.plain F.entry_set_init (check_set_init_1 ty ?_)
 have l1 : (hp1 w s.heap).IsList l its := hl.push _
 have ll : l < s.heap.objs.size := by
  obtain ⟨o, e, _⟩ := hl
  exact Heap.lt_size e
 obtain ⟨⟨oc, od, odt, osl⟩, e1, e2, n, e3⟩ := id l1
 dsimp only at e2 e3
 subst e2 e3
 have q1 := F.sub_list_set
 have q2 := F.sub_list_frozenset
 have q3 : (Value.type "list" == Value.type "dict") = false := by decide
 unfold Builtin.«set.__init__» noKeywords Builtin.Frozenset.updateFrom
 generalize hPI : pyIter = PI
 wp_walk
 subst hPI
 refine wpAny_pyIter_list l1 ?_
 refine wpAny_bind (wpAny_runValue ?_)
 have z1 : (hp1 w s.heap).objs.size = s.heap.objs.size + 1 := Heap.size_push ..
 have n1 : l ≠ (hp1 w s.heap).objs.size := by rw [z1]; exact Nat.ne_of_lt (Nat.lt_succ_of_lt ll)
 have n2 : s.heap.objs.size ∉ [(hp1 w s.heap).objs.size, l] := fun m => by
  rw [z1] at m
  rcases List.mem_cons.mp m with m | m
  ·exact Nat.ne_of_lt (Nat.lt_succ_self _) m
  ·exact Nat.ne_of_gt ll (List.mem_singleton.mp m)
 have hv : ∀ (i : Nat) (v : Value), its[i]? = some v → ∃ k t, ns[i]? = some k ∧ v = .str k t := fun i v e => strs_get hi i v (by rw [Array.getElem?_toList]; exact e)
 have hd3 : A.in1.in1.handled = none := by simp [hh]
 refine set_update_strs ((Walks.list hd3 _ l n1 its).toS) s.heap.objs.size n2 ns sz hb hv (its.size - 0) 0 _ (by omega) (Nat.zero_le _) ⟨⟨_, Heap.get?_push_size _ rfl, rfl, rfl⟩, l1.push _⟩ ?gStart ?gEnd
 case gStart => exact SetOf_congr ((PyProof.Rows.setObjOf_fresh (knd := strKind P w) _).setOf (Heap.get?_push_of_some _ g0) (by unfold scanBound; omega)) (fun _ => rfl) rfl
 case gEnd =>
  rintro ⟨h', g', d', tk', os'⟩ mv hS
  obtain rfl : g' = s.gens := mv.gens
  obtain rfl : d' = s.drawn := mv.drawn
  obtain rfl : os' = s.os := mv.os
  show wpAny _ _ _ _ _ _
  refine wpAny_pure ?_
  show wpAny _ _ (PySem.ret Value.none) _ _ _
  refine wpAny_pure (hR h' tk' hS fun b o e => ?_)
  have hlt : b < s.heap.objs.size := Heap.lt_size e
  refine mv.heap b o (fun m => ?_) (Heap.get?_push_of_some _ (Heap.get?_push_of_some _ e))
  rcases List.mem_cons.mp m with m | m
  ·exact Nat.ne_of_lt hlt m
  ·rw [List.mem_singleton.mp m, z1] at hlt
   exact absurd (Nat.lt_trans hlt (Nat.lt_succ_self _)) (Nat.lt_irrefl _)
set_option maxHeartbeats 3200000 in
theorem call_setS {l : Addr} {its : Array Value} (ns : List Str) {Q : Value → Shared → Prop} (hh : A.handled = none) (hl : s.heap.IsList l its) (hi : StrsAre its.toList ns) (hb : ns.length + 1 < scanBound)
  (h : ∀ h' tk, SetS P w h' s.heap.objs.size ns → (∀ b o, s.heap.get? b = some o → h'.get? b = some o) → Q (.ref s.heap.objs.size) { s with heap := h', toks := tk }) :
  wpAny (model P w) A (PySem.call (.type "set") [.ref l]) Q E s := by
 obtain ⟨c, tl, hmro⟩ := F.called_set.mro
 have k1 := F.called_set.made
 have k2 := F.called_set.sub
 refine wpAny_call (codeAny_of_tree ?_)
 show wpAny _ _ (callAny (.type "set") _) _ _ _
 refine wpAny_pure ⟨Code.quiet_builtin _ (by decide +kernel), codeAny_builtin F.entry_type_call ?_⟩
 rw [Around.under_plain (weight_type_call_type "set" [.ref l] []) rfl]
 have k3 := F.called_set.notType
 have k4 := F.called_set.canCreate
 have k5 := F.typeCall_set_1 (.ref l)
 repeat (any_goals (first | assumption | wp_step))
 refine codeAny_mono (code_set_led1 (.ref l) (E := E) (Q₁ := fun obj t => obj = .ref s.heap.objs.size ∧ t = { s with heap := hp1 w s.heap }) ⟨rfl, rfl⟩) fun r t hr => ?_
 match r, hr with
 | .error e, hr => exact hr
 | .ok (.ret obj), ⟨e1, e2⟩ =>
  subst e1 e2
  have ty : Shared.TypeIs { s with heap := hp1 w s.heap } (.ref s.heap.objs.size) "set" := ⟨_, Heap.get?_push_size _ rfl, rfl⟩
  have k6 := F.called_set.init.lookup
  have k7 := F.called_set.init.bind (.ref s.heap.objs.size)
  repeat (any_goals (first | assumption | wp_step))
  refine codeAny_mono (setS_init (R := wants (fun r t => r = .none ∧ ∃ h' tk, t = { s with heap := h', toks := tk } ∧ SetS P w h' s.heap.objs.size ns ∧ ∀ b o, s.heap.get? b = some o → h'.get? b = some o) E) ns ?_ hl hi hb fun h' tk x1 x3 => ⟨rfl, h', tk, rfl, x1, x3⟩) fun r2 t2 hr2 => ?_
  ·simp [hh]
  match r2, hr2 with
  | .error e, hr2 => exact hr2
  | .ok (.ret r), ⟨e3, h', tk, e4, x1, x3⟩ =>
   subst e3 e4
   repeat (any_goals (first | assumption | wp_step))
   exact h _ _ x1 x3
  | .ok .next, hr2 => exact hr2.elim
  | .ok .brk, hr2 => exact hr2.elim
  | .ok .cont, hr2 => exact hr2.elim
 | .ok .next, hr => exact hr.elim
 | .ok .brk, hr => exact hr.elim
 | .ok .cont, hr => exact hr.elim
end
section
variable {X : Cx} {W : WW} {fs : En → Res (List D)} {x : Str} {p p2 pos : Pos} {a : Expr}
end
end FL
namespace FL
open PySem PySem.Spec PyProof.Rows L2
mutual
theorem Reads.live {h : Heap} : ∀ {v : Value} {d : PyData} {as : List Addr}, Reads h v d as → ∀ a ∈ as, a < h.objs.size
 | _, _, _, .none, _, hp => by cases hp
 | _, _, _, .bool _, _, hp => by cases hp
 | _, _, _, .int _ _, _, hp => by cases hp
 | _, _, _, .str _ _, _, hp => by cases hp
 | _, _, _, .list h1 _ _ h4, a, hp => by
  rcases List.mem_cons.mp hp with rfl | hp
  ·exact Heap.lt_size h1
  ·exact ReadsAll.live h4 a hp
 | _, _, _, .tuple _ _ _ h4, a, hp => ReadsAll.live h4 a hp
 | _, _, _, .dict h1 _ _ h4 h5, a, hp => by
  rcases List.mem_append.mp hp with hp | hp
  ·rcases List.mem_cons.mp hp with rfl | hp
   ·exact Heap.lt_size h1
   ·exact ReadsAll.live h4 a hp
  ·exact ReadsAll.live h5 a hp
theorem ReadsAll.live {h : Heap} : ∀ {vs : List Value} {ds : List PyData} {as : List Addr}, ReadsAll h vs ds as → ∀ a ∈ as, a < h.objs.size
 | _, _, _, .nil, _, hp => by cases hp
 | _, _, _, .cons h1 h2, a, hp => by
  rcases List.mem_append.mp hp with hp | hp
  ·exact Reads.live h1 a hp
  ·exact ReadsAll.live h2 a hp
end
section
variable {K : PySem.W.Frag} {mg : Str → Option Value} {G H : Hp}
end
section
variable {X : Cx} {G : Hp}
end
end FL
namespace FL
open PySem PySem.Spec PyProof.Rows L2
open PySem.Sem (wp)
section
variable {prog : Program} {w : World} {K : Type} [DecidableEq K] {knd : HeapKind prog w K} {A : Around} {E : Value → Shared → Prop} {s : Shared}
theorem wpAny_tableMayTell_none {stored : List Value} {Q : Bool → Shared → Prop}
  (hst : ∀ v ∈ stored, ∃ k' b, v = .ref b ∧ knd.is s.heap k' b) (h : Q false s) : wpAny (model prog w) A (tableMayTell .none stored) Q E s := by
 unfold tableMayTell
 split
 ·exact wpAny_pure h
 ·rw [show eqIsQuiet 8 .none = pure true from rfl]
  refine wpAny_bind (wpAny_pure ?_)
  ·simp only [Bool.not_true, Bool.false_eq_true, if_false]
   refine wpAny_bind ?_
   refine wpAny_forIn_list _ (fun rest r s' => s' = s ∧ r = (none, ()) ∧ ∀ v ∈ rest, ∃ k' b, v = .ref b ∧ knd.is s.heap k' b) _ ?_ ?_ _ _ ⟨rfl, rfl, hst⟩
   ·rintro x rest r s' ⟨rfl, rfl, hr⟩
    obtain ⟨k', b, rfl, hb⟩ := hr x List.mem_cons_self
    refine wpAny_bind (knd.quiet hb ?_)
    simp only [Bool.not_true, Bool.false_eq_true, if_false]
    exact wpAny_pure ⟨rfl, rfl, fun v hv => hr v (List.mem_cons_of_mem _ hv)⟩
   ·rintro r s' ⟨rfl, rfl, _⟩
    exact wpAny_pure h
theorem wpAny_dictFind_none {d : Addr} {o : Obj} {es ep} {xs : List (K × Addr × Value)} {hN : Int} {Q : Option Nat → Shared → Prop}
  (heq : ∀ (b : Addr) (k : K) (Q : Bool → Shared → Prop), knd.is s.heap k b → Q false s → wpAny (model prog w) A (PySem.eqBool (.ref b) .none) Q E s)
  (ho : s.heap.get? d = some o) (hd : o.data = .dict es ep) (he : es.toList = xs.map (entryOfKey knd)) (his : ∀ x ∈ xs, knd.is s.heap x.1 x.2.1)
  (hnone : Q none s) :
  wpAny (model prog w) A (dictFind d .none hN) Q E s := by
 have hsz : es.size = xs.length := size_of_entries he
 have hmem : ∀ e ∈ es, ∃ x ∈ xs, e = entryOfKey knd x := by
  intro e hin
  have : e ∈ xs.map (entryOfKey knd) := he ▸ Array.mem_toList_iff.mpr hin
  obtain ⟨x, hx, rfl⟩ := List.mem_map.mp this
  exact ⟨x, hx, rfl⟩
 have hst : ∀ v ∈ (placesWithHash es.size (fun i => es[i]?.map (·.hash)) hN).filterMap (fun i => es[i]?.map (·.key)), ∃ k' b, v = .ref b ∧ knd.is s.heap k' b := by
  intro v hv
  obtain ⟨i, _, hi⟩ := List.mem_filterMap.mp hv
  cases hei : es[i]? with
  | none => rw [hei] at hi; cases hi
  | some e =>
   rw [hei] at hi
   obtain rfl : e.key = v := by simpa using hi
   obtain ⟨x, hx, rfl⟩ := hmem e (Array.mem_of_getElem? hei)
   exact ⟨x.1, x.2.1, rfl, his x hx⟩
 unfold dictFind
 try with_reducible refine wpAny_holding ?_
 refine wpAny_bind (wpAny_dictEntries ho hd ?_)
 dsimp only
 by_cases hcv : ((Value.none :: (placesWithHash es.size (fun i => es[i]?.map (·.hash)) hN).filterMap (fun i => es[i]?.map (·.key))).all carriedByValue) = true
 ·rw [if_pos hcv]
  rw [List.all_cons, Bool.and_eq_true] at hcv
  have hnil : placesWithHash es.size (fun i => es[i]?.map (·.hash)) hN = [] := by
   cases hp : placesWithHash es.size (fun i => es[i]?.map (·.hash)) hN with
   | nil => rfl
   | cons i r =>
    exfalso
    have hi : i ∈ placesWithHash es.size (fun i => es[i]?.map (·.hash)) hN := by rw [hp]; exact List.mem_cons_self
    unfold placesWithHash at hi
    have h2 := (List.mem_filter.mp hi).2
    cases hei : es[i]? with
    | none => simp [hei] at h2
    | some e =>
     have hm : e.key ∈ (placesWithHash es.size (fun i => es[i]?.map (·.hash)) hN).filterMap (fun i => es[i]?.map (·.key)) := List.mem_filterMap.mpr ⟨i, by rw [hp]; exact List.mem_cons_self, by rw [hei]; rfl⟩
     have h3 := List.all_eq_true.mp hcv.2 _ hm
     obtain ⟨k', b, hb, _⟩ := hst _ hm
     rw [hb] at h3
     exact Bool.noConfusion h3
  rw [hnil]
  unfold dictWalkPlain
  exact wpAny_bind (wpAny_pure (wpAny_pure hnone))
 ·rw [if_neg hcv]
  by_cases hone : (((placesWithHash es.size (fun i => es[i]?.map (·.hash)) hN).filterMap (fun i => es[i]?.map (·.key))) == [Value.none]) = true <;>
  (first | rw [if_pos hone] | rw [if_neg hone]) <;> (first | refine wpAny_bind (wpAny_pure ?_) | refine wpAny_bind (wpAny_tableMayTell_none hst ?_)) <;> (
   rw [if_neg (by simp)]
   refine wpAny_bind ?_
   refine wpAny_forIn_list _ (fun rest b s' => s' = s ∧ b = (none, none)) _ ?_ ?_ _ _ ⟨rfl, rfl⟩
   ·rintro x rest b s' ⟨rfl, rfl⟩
    cases hei : es[x]? with
    | none => exact wpAny_pure ⟨rfl, rfl⟩
    | some e =>
     obtain ⟨y, hy, rfl⟩ := hmem e (Array.mem_of_getElem? hei)
     dsimp only
     by_cases hh : ((entryOfKey knd y).hash == hN) = true
     ·rw [if_pos hh]
      refine wpAny_bind (wpAny_dictEpoch ho hd (wpAny_bind (heq _ y.1 _ (his y hy) (wpAny_bind (wpAny_dictEpoch ho hd ?_)))))
      show wpAny _ _ (if (ep != ep) = true then _ else _) _ E _
      rw [if_neg (by simp)]
      simp only [Bool.false_eq_true, if_false]
      refine wpAny_bind (wpAny_rule ?_)
      first | rw [if_neg (by simp)] | skip
      first
       | exact wpAny_pure ⟨rfl, rfl⟩
       | exact wpAny_bind (wpAny_pure (wpAny_pure ⟨rfl, rfl⟩))
     ·rw [if_neg hh]
      exact wpAny_pure ⟨rfl, rfl⟩
   ·rintro b s' ⟨rfl, rfl⟩
    exact wpAny_pure hnone)
end
section
variable {X : Cx} {pins : List (Addr × Obj)} {σ : L2.St} {H : Hp} {s : Shared} {a : Addr} {kvs : List (List Key × V)} {A : Around} {E : Value → Shared → Prop}
theorem dictGet_noneT {Q : Option Value → Shared → Prop} {d : Addr} {xs : List (List Key × Addr × Value)} (hu : A.units < cLine) (hm : s.heap.DictOfH (tupleKind (mixKind X.prog X.w)) d xs)
  (h : ∀ tk, Q none { s with toks := tk }) : wpAny (model X.prog X.w) A (dictGet d .none) Q E s := by
 obtain ⟨o, es, ep, ho, _, hd, he, his, hn⟩ := hm
 unfold dictGet
 try with_reducible refine wpAny_holding ?_
 refine wpAny_bind ((noneKind X.prog X.w).pyHash (k := none) (v := .none) rfl ?_)
 refine wpAny_bind (wpAny_dictFind_none (knd := tupleKind (mixKind X.prog X.w)) (fun b k Q hk hq => ?_) ho hd he his ?_)
 ·obtain ⟨o', its, n, h1, h2, h3, _⟩ := hk
  exact SeqAt.EqAt.tuple_none (items := its) ⟨o', h1, h2, n, h3⟩ hu _ _ _ _ hq
 ·exact wpAny_pure (h _)
theorem d_inNoneT {Q : Value → Shared → Prop} (hu : A.units + 1 < cLine) (I : Inv X pins σ H s) (e : Rd H a (.dT kvs)) (h : ∀ s', Inv X pins σ H s' → Q (.bool false) s') : wpAny (model X.prog X.w) A (compareOp .In .none (.ref a)) Q E s := by
 obtain ⟨_, hd, xs, _, hm⟩ := dt_rd I.hok e
 show wpAny _ _ (do return .bool (← contains (.ref a) .none)) Q E s
 refine wpAny_bind ?_
 unfold contains
 try with_reducible refine wpAny_holding ?_
 refine wpAny_bind (wpAny_specialOf hm.typeIs slot_dict_contains.lookup ?_)
 show wpAny _ _ (if (some (Value.builtin "dict.__contains__") == some Value.none) = true then _ else _) _ E s
 rw [if_neg (by rw [beq_builtin_none]; exact Bool.false_ne_true)]
 refine wpAny_bind (wpAny_callSpecialUnlessNone?_slot (name := Str.ofString "__contains__") hm.typeIs slot_dict_contains
  (wpAny_call_entry slot_dict_contains hm.typeIs entry_dict_contains ?_ (args_dict_contains _ _)))
 show wpAny _ _ (dictGet a .none >>= _) _ _ s
 refine wpAny_bind (dictGet_noneT (by show A.units + 1 < cLine; exact hu) hm fun tk => ?_)
 show wpAny _ _ (Builtin.Dict.pendingKey? a .none >>= _) _ _ _
 exact wpAny_bind (wpAny_pendingKey_other hd (wpAny_pure ⟨_, rfl, wpAny_truthy_bool (wpAny_pure (h _ (I.tok tk)))⟩))
end
section
variable {X : Cx} {W : WW} {a b : Expr} {fk fv : En → Res D} {pos : Pos}
end
end FL
namespace FL
open PySem PySem.Spec PyProof.Rows L2
section
variable {K : PySem.W.Frag} {mg : Str → Option Value} {G H : Hp}
end
section
variable {X : Cx} {W : WW} {a : Expr} {fs : En → Res (List D)} {p p2 pos : Pos}
end
end FL
namespace FL
open PySem PySem.Spec PyProof.Rows L2
section
variable {K : PySem.W.Frag} {mg : Str → Option Value} {G H : Hp} {σ : L2.St}
end
section
variable {X : Cx} {W : WW} {s k : Nat} {e o : Expr} {es : List Expr} {fp : En → Res (List Nat)} {fs : En → Res (List D)} {pos apos : Pos} {C m : Str} {CX : CXT} {on : Prop} {mk : List Bool} {F : List OT → ResG}
end
end FL
namespace FL
open PySem PySem.Spec PyProof.Rows L2
section
variable {X : Cx} {W : WW}
end
end FL
namespace FL
open PySem PySem.Spec PyProof.Rows L2
structure CalTH (P : Program) (w : World) (K : PySem.W.Frag) (mg : Str → Option Value) (base : Heap) (C m : Str) (k : Nat) (c : Str) (F : Addr → List D → Res OT) : Prop where
 ex : ∃ ca f fd ps, HotFn P w K mg base k f fd ps c (fun a => spP K mg False (F a)) ∧ mg C = some (.ref ca) ∧ L2.Cls K ca ∧ Meth K ca m f ∧ Binds K fd ps []
section
variable {X : Cx} {W : WW} {k : Nat} {o : Expr} {fo : En → Res D} {pos apos : Pos} {C m c : Str} {a : Addr} {F : Addr → List D → Res OT}
end
section
variable {X : Cx}
end
end FL
namespace FL
open PySem PySem.Spec PyProof.Rows L2
section
variable {K : PySem.W.Frag} {mg : Str → Option Value} {G H : Hp} {σ : L2.St}
end
section
variable {X : Cx} {W : WW} {s k : Nat} {e o : Expr} {es : List Expr} {fs : En → ResA} {pos apos : Pos} {C m : Str} {CX : CXT} {on : Prop} {mk : List Bool} {F : List OT → ResG}
end
end FL
namespace FL
open PySem PySem.Spec PyProof.Rows L2
section
variable {X : Cx}
end
end FL
namespace FL
open PySem PySem.Spec PyProof.Rows L2
def unL : Option Nat → Flw → Flw
 | _, .ex _ _ => .bad
 | some i, .nx ρ => .nx (ρ.set i none)
 | some i, .bk ρ => .bk (ρ.set i none)
 | some i, .ct ρ => .ct (ρ.set i none)
 | some i, .rt t ρ => .rt t (ρ.set i none)
 | _, r => r
section
variable {X : Cx} {W : WW} {io : List Nat} {T : List Str} {sub : Str → Str → Bool} {F : En → Flw}
end
end FL
namespace FL
open PySem PySem.Spec PyProof.Rows L2
def spIni (K : PySem.W.Frag) : Sp := fun vs H Q _ => ∃ (a C : Addr) (v : V), vs = [.ref a, v] ∧ L2.OexC K C ∧ PySem.W.findIn K (.ref C) "paths" = some none ∧ H a = some (exo a C none) ∧ ∀ dx, H dx = none → dx ≠ a → Q .non (upd (upd H dx (exd dx [(("paths" : Str), v)])) a (exo a C (some dx)))
structure ExcP (P : Program) (w : World) (K : PySem.W.Frag) (mg : Str → Option Value) (base : Heap) (c : Str) (k : Nat) : Prop where
 ex : ∃ C fI fd ps, FnOk P w K mg base CX0 k fI fd ps (spIni K) ∧ L2.OexC K C ∧ PySem.W.findIn K (.ref C) "__init__" = some (some (.ref fI)) ∧ PySem.W.typeIn K (.ref fI) = some (.type "function") ∧ mg c = some (.ref C) ∧ Binds K fd ps [] ∧ PySem.W.findIn K (.ref C) "paths" = some none
theorem fnIni {P : Program} {w : World} {K : PySem.W.Frag} {mg : Str → Option Value} {base : Heap} {qual : Str} {st : Stmt} {f : Addr} {fd : FuncData} {p1 p2 p3 p4 : Pos} (Fn : Fun K "__init__" qual st f fd) (S : FnScope [("self" : Str), ("paths" : Str)] [("self" : Str), ("paths" : Str)] (defScope st))
  (hb : defBody st = [.Assign [.Attribute (.Name "self" p1) "paths" p2] (.Name "paths" p3) p4]) (hv1 : Vis (defScope st) ("self" : Str)) (hv2 : Vis (defScope st) ("paths" : Str)) :
  FnOk P w K mg base CX0 1 f fd [("self" : Str), ("paths" : Str)] (spIni K) := by
 refine Fun.ok Fn S (fun vs H Q E ⟨a, C, v, h, _⟩ => by rw [h]; rfl) (fun cdv A outer s H vs Q E hr ⟨a, C, v, e, T, hno, ha, q⟩ => ?_)
 subst e
 rw [hb]
 refine ⟨_, pss_one (ps_ost (pe_var (i := 0) rfl hv1) (pe_var (i := 1) rfl hv2)), ?_⟩
 exact ⟨v, rfl, .ref a, rfl, a, C, rfl, T, hno, .inl ⟨ha, fun dx h1 h2 => q dx h1 h2⟩⟩
theorem pmk_oexN {X : Cx} {CX : CXT} {x : Str} {C fI : Addr} {k : Nat} {fd : FuncData} {ps : List Str} {sp : Sp} {e : Expr} {es : List Expr} {ta : TA} {p pos : Pos} (T : L2.OexC X.K C) (iC : PySem.W.findIn X.K (.ref C) "__init__" = some (some (.ref fI))) (tI : PySem.W.typeIn X.K (.ref fI) = some (.type "function"))
  (F1 : FnOk X.prog X.w X.K X.mg X.base CX k fI fd ps sp) (hr : Room (k + 1) X.A) (hb : Binds X.K fd ps []) (hx : Passes CX X (fun _ _ _ => False)) (hg : Gl X x) (hm : X.mg x = some (.ref C)) (ha : PA X (e :: es) ta)
  (hdb : (x == ("__debug__" : Str)) = false := by decide) (he : starEach (e :: es) X.env = (false, eval e X.env) :: starEach es X.env := by rfl) (hpl : (backTo pos (starEach es X.env)).any (·.1) = false := by rfl) :
  L2N.PMk X (.Call (.Name x p) (e :: es) [] pos) (tMkO C sp [] ta) := by
 intro pins s σ H Q I h
 obtain ⟨nm, q, N, bs, bm, sn, sub, ab, col, dd, k0, k1, k2, k3, k5, hC, hbm⟩ := T.cls
 refine wpAny_Call_Name_kw (ld_glob I hg hm ?_ hdb)
 refine PySem.W.callWith_K (h₀ := X.base) I.ok.mod.kin T.kC (thn (ha.run pos pins s σ H _ I h) fun us s1 ⟨vs, H1, I1, r1, hz, q1⟩ => ⟨I1.kIn, ?_⟩) he hpl
 show wpAny _ _ (PySem.call (.ref C) us) _ _ _
 obtain ⟨hp, g, dr, tk, os⟩ := s1
 have hsz : hp.objs.size ≤ hp.objs.size + 1 := Nat.le_succ _
 have hn : H1 (hp.objs.size + 1) = none := I1.hok.fresh hsz
 have hq := q1 _ hn
 rw [List.append_nil] at hq
 have kk : ∀ b o, hp.get? b = some o → ((hp.push (PySem.W.kdv_tup us)).push (PySem.HandSPX.excO C hp.objs.size)).get? b = some o := fun b o e => Heap.get?_push_of_some _ (Heap.get?_push_of_some _ e)
 have hget : ((hp.push (PySem.W.kdv_tup us)).push (PySem.HandSPX.excO C hp.objs.size)).get? (hp.objs.size + 1) = some (PySem.HandSPX.excO C hp.objs.size) := by heap_get
 have I2 : Inv X pins σ (upd H1 (hp.objs.size + 1) (exo (hp.objs.size + 1) C none)) ⟨(hp.push (PySem.W.kdv_tup us)).push (PySem.HandSPX.excO C hp.objs.size), g, dr, tk, os⟩ :=
  I1.laid (t' := tk) (a := hp.objs.size + 1) (o := exo (hp.objs.size + 1) C none) (h' := (hp.push (PySem.W.kdv_tup us)).push (PySem.HandSPX.excO C hp.objs.size)) kk hsz (exo_ok hget)
 have r2 : Vals (V.ref (hp.objs.size + 1) :: vs) (Value.ref (hp.objs.size + 1) :: us) := .cons rfl r1
 have hl : (Value.ref (hp.objs.size + 1) :: us).length = ps.length := by
  rw [← r2.length]
  exact F1.len _ _ _ _ hq
 have hus : us.length ≤ sizeLine := by
  rw [← Paired.length r1, sizeLine_eq]
  omega
 refine wpAny_call (PySem.HandSPX.call_own F.excBase_ValueError (fun Y => PySem.HandSPX.refsVE_contains Y bm hbm) (I1.kIn _ _ hC) (PySem.W.looks_findIn I1.kIn iC) (fun self => PySem.W.bind_fn I1.kIn self tI) hus
  (codeAny_mono (F1.run _ X.stack _ _ ⟨Value.ref (hp.objs.size + 1) :: us, []⟩ (Value.ref (hp.objs.size + 1) :: us) _ _ (fun _ _ _ => False) (hr.make C us []) (I2.env0.make C us []) (by
   have := hb _ (Value.ref (hp.objs.size + 1) :: us) I2.kIn (by rw [List.append_nil]; exact hl)
   rw [List.append_nil] at this
   exact this) r2 hq) fun r s' hq' => ?_))
 cases r with
 | error er => exact hx pins σ _ _ er s' I2 hq'
 | ok fl =>
  cases fl with
  | ret u =>
   obtain ⟨v, H2, os2, bare2, un2, hok2, rv, ev, d, fs, ea, ed, hd1, q2⟩ := hq'
   subst ev
   obtain ⟨h2, g2, d2, t2, os'⟩ := s'
   obtain ⟨t0, G, J, kG, ge, hoe, na⟩ := mk_end0 (d2 := d2) (t2 := t2) I1 hsz kk un2 hok2 os2 bare2 ea ed hd1
   exact ⟨rv, hp.objs.size + 1, _, _, ⟨G, g2, d2, t2, os'⟩, _, .ref C, some d, rfl, J, kG, ge, hoe, ⟨rfl, rfl, fun vs e => by cases e; rfl⟩, rfl, rfl, na, rfl, bare2, raises_own T.exC T.tyC, q2⟩
  | next => exact False.elim hq'
  | brk => exact False.elim hq'
  | cont => exact False.elim hq'
def raP (c : Str) (f : En → Res D) (ρ : En) : Flw := bindF (f ρ) ρ fun d => .ex ⟨c, some d⟩ ρ
theorem S1.raiseP {X : Cx} {W : WW} {io : List Nat} {c : Str} {k : Nat} {e : Expr} {f : En → Res D} {p pos pos' : Pos} (hc : X.calm = true) (tk : L2N.Takes X W.w) (T : ExcP X.prog X.w X.K X.mg X.base c k) (hr : Room (k + 1) X.A) (he : EF X W e f) (hg : Gl X c := by rfl) (hdb : (c == ("__debug__" : Str)) = false := by decide)
  (hs : starEach [e] X.env = (false, eval e X.env) :: starEach [] X.env := by rfl) (hpl : (backTo pos (starEach [] X.env)).any (·.1) = false := by rfl) :
  S1 X W io (.Raise (some (.Call (.Name c p) [e] [] pos)) none pos') (raP c f) := ⟨fun B hB => by
 obtain ⟨C, fI, fd, ps, F1, oe, iC, tI, hC, hb, hno⟩ := T.ex
 refine PS.mono (L2N.ps_raise hc tk (pmk_oexN oe iC tI F1 hr hb (fun _ _ _ _ _ _ _ z => z.elim) hg hC (pa_cons (he.run B) pa_nil hs) hdb hs hpl)) fun N σ H ⟨G, ρ, r, h⟩ => ?_
 refine lift.of (g := f) r h fun d v G1 H1 r1 s1 q o => ?_
 refine ⟨by simp, fun a ha => ⟨a, C, v, rfl, oe, hno, upd_same, fun dx h1 h2 => ⟨rfl, dx, [(("paths" : Str), v)], upd_same, by rw [upd_ne h2, upd_same], by rw [upd_ne h2] at h1; exact h1, ?_⟩⟩⟩
 have hdx : H1 dx = none := by rw [upd_ne h2] at h1; exact h1
 have eH : upd (del (upd (upd (upd H1 a (exo a C none)) dx (exd dx [(("paths" : Str), v)])) a (exo a C (some dx))) a) dx (.xd [(("paths" : Str), v)]) = upd H1 dx (.xd [(("paths" : Str), v)]) := by
  funext b
  by_cases z : b = dx
  ·subst z; rw [upd_same, upd_same]
  ·rw [upd_ne z, upd_ne z]
   by_cases y : b = a
   ·subst y; rw [del_same, ha]
   ·rw [del_ne y, upd_ne y, upd_ne z, upd_ne y]
 rw [eH]
 have st : Stp G1 H1 (upd G1 dx (.xd [(("paths" : Str), v)])) (upd H1 dx (.xd [(("paths" : Str), v)])) := Stp.new r1.gh hdx
 exact o.2 σ _ _ _ _ (r1.step st) ⟨hC, dx, v, rfl, upd_same, R.mono st.gg q⟩⟩
end FL
namespace FL
open PySem PySem.Spec PyProof.Rows L2
structure CauQ (X : Cx) (a : Addr) (c : Str) (q : Option Addr) : Prop where
 ex : ∃ oe C, (a, oe) ∈ X.pn ∧ X.mg c = some (.ref C) ∧ L2N.Zn (.ref C) q oe ∧ ∃ vs, oe.data = .fields vs
def isXQ (a : Addr) (q : Option Addr) (b : Bool) : D → Option D
 | .exn a' => if a' = a ∧ q = none then some (.bl b) else none
 | .exq a' dd _ => if a' = a ∧ q = some dd then some (.bl b) else none
 | _ => none
def pthX (a : Addr) (q : Option Addr) : D → Option D
 | .exq a' dd x => if a' = a ∧ q = some dd then some x else none
 | _ => none
theorem call_isQ {X : Cx} {a C dd : Addr} {oe : Obj} (hp : (a, oe) ∈ X.pn) (E : L2.ExcC X.K C) (hz : Zc (.ref C) (some dd) oe) (hf : ∃ vs, oe.data = .fields vs) : CallR X (.builtin "isinstance") (fun xs H Q => (∃ fs, H dd = some (.xd fs)) ∧ rIsE X.K C a xs H Q) := by
 rintro pins s σ H xs us Q I r ⟨⟨fs, hdd⟩, c, cv, b, rfl, hcv, e, q⟩
 cases r with
 | cons rx rr =>
  cases rr with
  | cons rt rr =>
   cases rr
   cases rx
   cases hcv _ rt
   obtain ⟨got, _⟩ := I.pin (a, oe) (List.mem_append_left _ hp)
   have hx : ObjOk X.prog X.w H s.heap dd (.xd fs) := I.hok dd _ hdd
   obtain ⟨mA, hns, hr⟩ := hx
   obtain ⟨od, ho, hl⟩ := lookIn_ns hns
   have J : PySem.W.InstAt s.heap a oe C (some od) := by
    obtain ⟨oc, odd, oda, osl⟩ := oe
    obtain ⟨vs, hv⟩ := hf
    obtain ⟨h1, h2⟩ := hz
    dsimp only at h1 h2 hv
    subst h1 h2 hv
    exact ⟨got, rfl, rfl, ho⟩
   exact PySem.W.kia_one (PySem.W.kitx_exc (by obtain ⟨cd, hc, _⟩ := PySem.W.any_some E.hd; rw [hc]; rfl) E.hg E.hk E.hs E.ha E.hn E.ht E.hm) I.kIn J e (fun z => nomatch z) fun tk => ⟨.bl b, H, I.kept (t' := tk) fun _ _ z => z, rfl, q⟩
section
variable {X : Cx} {W : WW} {io : List Nat} {e : Expr} {f : En → Res D} {T : List Str} {sub : Str → Str → Bool} {p p2 pos : Pos}
theorem isXQ_none {a : Addr} {b : Bool} {d y : D} (h : isXQ a none b d = some y) : d = .exn a ∧ y = .bl b := by
 unfold isXQ at h
 split at h
 ·split at h
  ·rename_i z; cases h; exact ⟨by rw [z.1], rfl⟩
  ·cases h
 ·split at h
  ·rename_i z; cases z.2
  ·cases h
 ·cases h
theorem isXQ_some {a dd : Addr} {b : Bool} {d y : D} (h : isXQ a (some dd) b d = some y) : (∃ x, d = .exq a dd x) ∧ y = .bl b := by
 unfold isXQ at h
 split at h
 ·split at h
  ·rename_i z; cases z.2
  ·cases h
 ·split at h
  ·rename_i z; cases h; cases z.2; exact ⟨⟨_, by rw [z.1]⟩, rfl⟩
  ·cases h
 ·cases h
theorem EF.isXQ {a : Addr} {c d : Str} {q : Option Addr} (cau : CauQ X a c q) (hc : c ∈ T) (k : ExK X.K X.mg T sub) (hm : X.mg "isinstance" = none) (ha : EF X W e f) (hd : d ∈ T := by decide) (hg : Gl X "isinstance" := by rfl) (hg2 : Gl X d := by rfl) (hdb : (d == ("__debug__" : Str)) = false := by decide)
  (hs : starEach [e, .Name d p2] X.env = (false, eval e X.env) :: starEach [.Name d p2] X.env := by rfl) (hs2 : starEach [.Name d p2] X.env = (false, eval (.Name d p2) X.env) :: starEach [] X.env := by rfl) (hpl : (backTo pos (starEach [.Name d p2] X.env)).any (·.1) = false := by rfl) :
  EF X W (.Call (.Name "isinstance" p) [e, .Name d p2] [] pos) (op1 (FL.isXQ a q (sub c d)) f) := ⟨fun B => by
 obtain ⟨oe, C, h1, h2, h3, h4⟩ := cau.ex
 obtain ⟨E, hE⟩ := k.cls d hd
 have ek := (k.exm c hc d hd C E h2 hE).2
 cases q with
 | none =>
  exact PE.mono (pe_callB (call_isP h1 (k.exc c hc C h2) h3.zc h4) hg hm (by decide +kernel) (pa_cons (ha.run B) (pa_cons (pe_glob (v := .ref E) hg2 hE rfl hdb) pa_nil hs2) hs) (by decide) (by decide) hs hpl) fun σ H Q ⟨G, ρ, r, h⟩ =>
   lift.next (rel := relD X.K X.mg) (g := fun x _ => FL.ofO (FL.isXQ a none (sub c d) x)) later_D r h fun z x G1 H1 r1 s1 q1 w1 => by
    cases ez : FL.isXQ a none (sub c d) z with
    | none => rw [ez] at w1; exact w1.elim
    | some y =>
     rw [ez] at w1
     obtain ⟨rfl, rfl⟩ := isXQ_none ez
     cases (show x = .ref a from q1)
     exact ⟨.ref E, .ref E, _, rfl, fun u h => by cases h; rfl, ek, w1.ok (Stp.refl r1.gh) rfl⟩
 | some dd =>
  exact PE.mono (pe_callB (call_isQ h1 (k.exc c hc C h2) h3.zc h4) hg hm (by decide +kernel) (pa_cons (ha.run B) (pa_cons (pe_glob (v := .ref E) hg2 hE rfl hdb) pa_nil hs2) hs) (by decide) (by decide) hs hpl) fun σ H Q ⟨G, ρ, r, h⟩ =>
   lift.next (rel := relD X.K X.mg) (g := fun x _ => FL.ofO (FL.isXQ a (some dd) (sub c d) x)) later_D r h fun z x G1 H1 r1 s1 q1 w1 => by
    cases ez : FL.isXQ a (some dd) (sub c d) z with
    | none => rw [ez] at w1; exact w1.elim
    | some y =>
     rw [ez] at w1
     obtain ⟨⟨x', rfl⟩, rfl⟩ := isXQ_some ez
     obtain ⟨w, ex, eg, rw'⟩ := q1
     cases ex
     exact ⟨⟨_, r1.gh _ _ eg⟩, .ref E, .ref E, _, rfl, fun u h => by cases h; rfl, ek, w1.ok (Stp.refl r1.gh) rfl⟩⟩
structure XfK (K : PySem.W.Frag) (mg : Str → Option Value) (T : List Str) : Prop where
 xf : ∀ c ∈ T, ∀ C, mg c = some (.ref C) → L2.XfC K C ∧ PySem.W.findIn K (.ref C) "paths" = some none
theorem pe_xfm {a C : Addr} {d : Option Addr} {oe : Obj} {te : TE} {n : Str} (hp : (a, oe) ∈ X.pn) (T : L2.XfC X.K C) (hno : PySem.W.findIn X.K (.ref C) n = some none) (hz : Zc (.ref C) d oe) (hf : ∃ vs, oe.data = .fields vs) (he : PE X e te)
  (hb : attributeBase e n X.env (eval e X.env) = eval e X.env := by rfl) : PE X (.Attribute e n pos) (tXf a (.ref C) d C n te) := by
 refine ⟨fun pins s σ H Q I h => attr_of hb (thn (he.run pins s σ H _ I h) fun u s1 ⟨x, H1, I1, rx, ex, _, dd, fs, v, ed, ea, l, q⟩ => ?_)⟩
 subst ex
 obtain rfl : u = Value.ref a := rx
 subst ed
 obtain ⟨got, _⟩ := I1.pin (a, oe) (List.mem_append_left _ hp)
 obtain ⟨vs, hd⟩ := hf
 have hx : ObjOk X.prog X.w H1 s1.heap dd (.xd fs) := I1.hok dd _ ea
 obtain ⟨mA, hns, hr⟩ := hx
 obtain ⟨od, ho, hl⟩ := lookIn_ns hns
 obtain ⟨u, hu, ru⟩ := RelO.some_of (v := v) (o := mA n) (by rw [← l]; exact hr n)
 have J : PySem.W.InstAt s1.heap a oe C (some od) := ⟨got, hz.1, by unfold PySem.W.notCls; rw [hd] <;> rfl, by rw [hz.2]; exact ho⟩
 exact HandSPX.exc_get I1.kIn J T.ga T.gg T.exC (PySem.W.findObj_own T.hdC hno rfl (by rw [hl, hu])) (handed_of ru) ⟨v, H1, I1.tok _, ru, q⟩
theorem EF.pth {a : Addr} {c : Str} {q : Option Addr} (cau : CauQ X a c q) (hc : c ∈ T) (k : XfK X.K X.mg T) (ha : EF X W e f) (hb : attributeBase e "paths" X.env (eval e X.env) = eval e X.env := by rfl) : EF X W (.Attribute e "paths" pos) (op1 (pthX a q) f) := ⟨fun B => by
 obtain ⟨oe, C, h1, h2, h3, h4⟩ := cau.ex
 obtain ⟨x1, x2⟩ := k.xf c hc C h2
 exact PE.mono (pe_xfm h1 x1 x2 h3.zc h4 (ha.run B) hb) fun σ H Q ⟨G, ρ, r, h⟩ =>
  lift.next (rel := relD X.K X.mg) (g := fun x _ => FL.ofO (pthX a q x)) later_D r h fun z x G1 H1 r1 s1 q1 w1 => by
   unfold pthX at w1
   cases z <;> first | exact w1.elim | skip
   rename_i a' dd' y
   dsimp only at w1
   by_cases ea : a' = a ∧ q = some dd'
   ·rw [if_pos ea] at w1
    obtain ⟨rfl, e2⟩ := ea
    obtain ⟨w, rfl, eg, rw'⟩ := q1
    exact ⟨rfl, rfl, dd', _, w, e2, r1.gh _ _ eg, by simp [List.lookup], w1.ok (Stp.refl r1.gh) rw'⟩
   ·rw [if_neg ea] at w1; exact w1.elim⟩
def setQ : Option Nat → Addr → Option (Addr × D) → En → En
 | none, _, _, ρ => ρ
 | some i, a, none, ρ => ρ.set i (some (.d (.exn a)))
 | some i, a, some (dd, x), ρ => ρ.set i (some (.d (.exq a dd x)))
structure ClzQ where
 c : Str
 n : Option Nat
 f : Addr → Option Addr → Str → En → Flw
noncomputable def caught (k : ClzQ) (c : Str) : Option D → En → Flw
 | none, ρ => allA fun a => unE k.n (k.f a none c (setQ k.n a none ρ))
 | some d, ρ => allA fun a => allA fun dd => unE k.n (k.f a (some dd) c (setQ k.n a (some (dd, d)) ρ))
noncomputable def hdlQ (sub : Str → Str → Bool) : List ClzQ → Exn → En → Flw
 | [], x, ρ => .ex x ρ
 | k :: ks, x, ρ => if sub x.c k.c = true then caught k x.c x.p ρ else hdlQ sub ks x ρ
noncomputable def tryQ (T : List Str) (sub : Str → Str → Bool) (F : En → Flw) (ks : List ClzQ) (ρ : En) : Flw := match F ρ with
 | .ex x ρ' => if decide (x.c ∈ T) = true then hdlQ sub ks x ρ' else .bad
 | r => r
inductive ClsQ (X : Cx) (io : List Nat) (T : List Str) : List ExceptHandler → List ClzQ → Prop
 | nil : ClsQ X io T [] []
 | one {x : Str} {f : Addr → Option Addr → Str → En → Flw} {b₀ : Stmt} {suite : List Stmt} {np pos' : Pos} {hds : List ExceptHandler} {l : List ClzQ} (hx : x ∈ T) (hg : Gl X x) (hd : (x == ("__debug__" : Str)) = false)
   (hsu : ∀ (a : Addr) (q : Option Addr) (pn : List (Addr × Obj)) (c : Str), c ∈ T → CauQ (X.suite a pn) a c q → SS (X.suite a pn) W0 io (b₀ :: suite) (f a q c)) (r : ClsQ X io T hds l) : ClsQ X io T (.ExceptHandler (some (.Name x np)) none (b₀ :: suite) pos' :: hds) (⟨x, none, f⟩ :: l)
 | as {x n : Str} {i : Nat} {f : Addr → Option Addr → Str → En → Flw} {b₀ : Stmt} {suite : List Stmt} {np pos' : Pos} {hds : List ExceptHandler} {l : List ClzQ} (hx : x ∈ T) (hg : Gl X x) (hd : (x == ("__debug__" : Str)) = false) (hN : X.N.Nodup) (hi : X.N[i]? = some n) (hln : X.env.kindOf n = some .local) (hio : i ∉ io)
   (hsu : ∀ (a : Addr) (q : Option Addr) (pn : List (Addr × Obj)) (c : Str), c ∈ T → CauQ (X.suite a pn) a c q → SS (X.suite a pn) W0 io (b₀ :: suite) (f a q c)) (r : ClsQ X io T hds l) : ClsQ X io T (.ExceptHandler (some (.Name x np)) (some n) (b₀ :: suite) pos' :: hds) (⟨x, some i, f⟩ :: l)
def suQ (X : Cx) (T : List Str) (B : Bs) (f : Addr → Option Addr → Str → En → Flw) : Suit := fun a cls d N σ H => ∃ c G ρ, c ∈ T ∧ X.mg c = some cls ∧ Rep X.K X.mg B G H σ ρ ∧ Out X W0 B N (f a d c ρ)
theorem suQ_ok {f : Addr → Option Addr → Str → En → Flw} {b₀ : Stmt} {suite : List Stmt} {B : Bs} (k : ExK X.K X.mg T sub) (hB : B.io.map (·.1) = io)
  (hsu : ∀ (a : Addr) (q : Option Addr) (pn : List (Addr × Obj)) (c : Str), c ∈ T → CauQ (X.suite a pn) a c q → SS (X.suite a pn) W0 io (b₀ :: suite) (f a q c)) (a : Addr) (oe : Obj) (cls : Value) (d : Option Addr) (pn : List (Addr × Obj)) (hz : L2N.Zn cls d oe) (hf : ∃ vs, oe.data = .fields vs) :
  PSs (X.suite a ((a, oe) :: pn)) (b₀ :: suite) (suQ X T B f a cls d) := by
 refine ⟨fun pins s σ H N I ⟨c, G, ρ, hc, hm, r, o⟩ => ?_⟩
 obtain ⟨C, hC⟩ := k.cls c hc
 have e : cls = .ref C := Option.some.inj (hm.symm.trans hC)
 subst e
 exact ((hsu a d ((a, oe) :: pn) c hc ⟨oe, C, List.mem_cons_self, hm, hz, hf⟩).run B hB).run pins s σ H N I ⟨G, ρ, r, o⟩
theorem caught_one {B : Bs} {N : Ends} {c : ClzQ} (hn : c.n = none) {y : Exn} {ρ : En} {σ : L2.St} {G H : Hp} {cls : Value} {dd : Option Addr} (o : Out X W B N (caught c y.c y.p ρ)) (r : Rep X.K X.mg B G H σ ρ) (q : RX X.K X.mg G H y cls dd) (a : Addr) :
  ∃ ρ', Rep X.K X.mg B G H σ ρ' ∧ Out X W0 B (FL.gone none N) (c.f a dd y.c ρ') := by
 obtain ⟨x, n, f⟩ := c
 cases hn
 obtain ⟨yc, yp⟩ := y
 obtain ⟨q1, q2⟩ := q
 cases yp with
 | none =>
  cases (show dd = none from q2)
  exact ⟨ρ, r, out_un (W := W) (fun i z => nomatch z) (allA_out o a)⟩
 | some d =>
  obtain ⟨da, v, rfl, hG, hR⟩ := q2
  exact ⟨ρ, r, out_un (W := W) (fun i z => nomatch z) (allA_out (allA_out o a) da)⟩
theorem caught_as {B : Bs} {N : Ends} {c : ClzQ} {i : Nat} (hn : c.n = some i) (hne : ∀ q ∈ B.io, q.1 ≠ i) {y : Exn} {ρ : En} {σ : L2.St} {G H : Hp} {cls : Value} {dd : Option Addr} (o : Out X W B N (caught c y.c y.p ρ)) (r : Rep X.K X.mg B G H σ ρ) (q : RX X.K X.mg G H y cls dd) (a : Addr) :
  ∃ ρ', Rep X.K X.mg B G H (held (some i) a σ) ρ' ∧ Out X W0 B (FL.gone (some i) N) (c.f a dd y.c ρ') := by
 obtain ⟨x, n, f⟩ := c
 cases hn
 obtain ⟨yc, yp⟩ := y
 obtain ⟨q1, q2⟩ := q
 cases yp with
 | none =>
  cases (show dd = none from q2)
  exact ⟨_, (r.val (d := .exn a) rfl).set hne, out_un (W := W) (fun j z => by cases z; exact hne) (allA_out o a)⟩
 | some d =>
  obtain ⟨da, v, rfl, hG, hR⟩ := q2
  exact ⟨_, (r.val (d := .exq a da d) ⟨v, rfl, hG, hR⟩).set hne, out_un (W := W) (fun j z => by cases z; exact hne) (allA_out (allA_out o a) da)⟩
theorem ClsQ.hds (k : ExK X.K X.mg T sub) {B : Bs} (hB : B.io.map (·.1) = io) : ∀ {hds : List ExceptHandler} {l : List ClzQ}, ClsQ X io T hds l → ∃ l', Hds X hds l' ∧
  ∀ {Wout : WX} {N : Ends} {x : Exn} {ρ : En} {σ : L2.St} {G H : Hp} {cls : Value} {dd : Option Addr}, x.c ∈ T → W.w = Wout → Out X W B N (hdlQ sub l x ρ) → Rep X.K X.mg B G H σ ρ → RX X.K X.mg G H x cls dd → wCl X.K Wout N l' cls dd σ H := by
 intro hds l h
 induction h with
 | nil => exact ⟨[], .nil, fun {Wout N x ρ σ G H cls dd} _ hw o r q => by subst hw; exact o.2 σ G H cls dd r q⟩
 | @one x f b₀ suite np pos' hds l hx hg hd hsu r ih =>
  obtain ⟨l', h1, h2⟩ := ih
  obtain ⟨E, hE⟩ := k.cls x hx
  refine ⟨(.ref E, none, suQ X T B f) :: l', .one ⟨hg, hd, .inl hE⟩ (fun a oe cls d pn hz hf => suQ_ok k hB hsu a oe cls d pn hz hf) h1, fun {Wout N y ρ σ G H cls dd} hc hw o r q => ?_⟩
  obtain ⟨C, hC⟩ := k.cls y.c hc
  have e : cls = .ref C := Option.some.inj (q.1.symm.trans hC)
  refine ⟨sub y.c x, by rw [e]; exact (k.exm y.c hc x hx C E hC hE).1, fun hy a na => ?_, fun hn => ?_⟩
  ·unfold hdlQ at o
   rw [if_pos hy] at o
   obtain ⟨ρ', r', o'⟩ := caught_one (c := ⟨x, none, f⟩) rfl o r q a
   exact ⟨y.c, G, ρ', hc, q.1, r', o'⟩
  ·unfold hdlQ at o
   rw [if_neg (by rw [hn]; exact Bool.false_ne_true)] at o
   exact h2 hc hw o r q
 | @as x n i f b₀ suite np pos' hds l hx hg hd hN hi hln hio hsu r ih =>
  obtain ⟨l', h1, h2⟩ := ih
  obtain ⟨E, hE⟩ := k.cls x hx
  refine ⟨(.ref E, some i, suQ X T B f) :: l', .as hN hi hln ⟨hg, hd, .inl hE⟩ (fun a oe cls d pn hz hf => suQ_ok k hB hsu a oe cls d pn hz hf) h1, fun {Wout N y ρ σ G H cls dd} hc hw o r q => ?_⟩
  obtain ⟨C, hC⟩ := k.cls y.c hc
  have e : cls = .ref C := Option.some.inj (q.1.symm.trans hC)
  have hne := io_ne hB hio
  refine ⟨sub y.c x, by rw [e]; exact (k.exm y.c hc x hx C E hC hE).1, fun hy a na => ?_, fun hn => ?_⟩
  ·unfold hdlQ at o
   rw [if_pos hy] at o
   obtain ⟨ρ', r', o'⟩ := caught_as (c := ⟨x, some i, f⟩) rfl hne o r q a
   exact ⟨y.c, G, ρ', hc, q.1, r', o'⟩
  ·unfold hdlQ at o
   rw [if_neg (by rw [hn]; exact Bool.false_ne_true)] at o
   exact h2 hc hw o r q
theorem S1.tryQ {F : En → Flw} {body : List Stmt} {h₀ : ExceptHandler} {hds : List ExceptHandler} {l : List ClzQ} {pos : Pos} (k : ExK X.K X.mg T sub) (tk : L2N.Takes X W.w) 
  (hb : ∀ (W' : WX) (pn : List (Addr × Obj)) (xe : Value → Shared → Prop), L2N.Takes (X.tr pn xe) W' → PassesOwn (model X.prog X.w) X.A X.env xe → SS (X.tr pn xe) ⟨True, W'⟩ io body F)
  (hc : ClsQ X io T (h₀ :: hds) l) (hs : X.stack = X.env :: X.outer := by rfl) (hf : X.env.frame = some X.env.locals := by rfl) : S1 X W io (.Try body (h₀ :: hds) [] [] pos) (tryQ T sub F l) := ⟨fun B hB => by
 obtain ⟨l', h1, h2⟩ := hc.hds (W := W) k hB
 refine PS.mono (ps_tryC (tb := fun W' => lS X ⟨True, W'⟩ B F) hs hf tk (fun W' pn xe t p => (hb W' pn xe t p).run B hB) h1) fun N σ H ⟨G, ρ, r, h⟩ => ⟨G, ρ, r, ?_⟩
 unfold FL.tryQ at h
 cases e : F ρ with
 | ex x ρ' =>
  rw [e] at h
  dsimp only at h
  split at h
  ·rename_i hx
   exact ⟨trivial, fun σ G H cls dd r q => h2 (of_decide_eq_true hx) rfl h r q⟩
  ·exact h.elim
 | nx ρ' => rw [e] at h; exact h
 | bk ρ' => rw [e] at h; exact h
 | ct ρ' => rw [e] at h; exact h
 | rt t ρ' => rw [e] at h; exact h
 | bad => rw [e] at h; exact h⟩
end
end FL
namespace FL
open PySem PySem.Spec PyProof.Rows L2
def ToldQ (mg : Str → Option Value) (c : Str) (qq : Option Addr) (q : Addr × Obj) : Prop := ∃ C, mg c = some (.ref C) ∧ L2N.Zn (.ref C) qq q.2 ∧ ∃ vs, q.2.data = .fields vs
section
variable {P : Program} {w : World} {K : PySem.W.Frag} {mg : Str → Option Value} {base : Heap}
structure HotFnQ (P : Program) (w : World) (K : PySem.W.Frag) (mg : Str → Option Value) (base : Heap) (k : Nat) (f : Addr) (fd : FuncData) (ps : List Str) (c : Str) (qq : Option Addr) (sp : Addr → Sp) : Prop where
 len : ∀ a vs H Q E, sp a vs H Q E → vs.length = ps.length
 run : ∀ (A : Around) (out : List Env) (s : Shared) (H : Hp) (ar : Args) (us : List Value) (vs : List V) (Q : VK) (E : XK) (q : Addr × Obj), L2H.RoomH k A → L2H.Hot1 A q → ToldQ mg c qq q → L2H.PinOk out H s q → Env0 P w K mg base A out s H →
  BindsTo s fd ar (ps.zip us) → Vals vs us → sp q.1 vs H Q E → codeAny (model P w) A (.call (.ref f) ar) (CR CX0 out P w H s Q E) s
theorem hotQ0 {x qual : Str} {st : Stmt} {f : Addr} {fd : FuncData} {N ps : List Str} {k : Nat} {c : Str} {qq : Option Addr} {F : Addr → En → Flw} (Fn : Fun K x qual st f fd) (S : FnScope N ps (defScope st))
  (hb : ∀ (cdv : Value) (A : Around) (out : List Env) (s : Shared) (H : Hp) (E : XK) (q : Addr × Obj), L2H.RoomH k (A.deeper (envOfC qual (defScope st) s.heap.objs.size f cdv)) → CauQ (L2H.cxH CX0 P w K mg base N qual (defScope st) f cdv A out s H E q) q.1 c qq →
   SS (L2H.cxH CX0 P w K mg base N qual (defScope st) f cdv A out s H E q) W0 [] (defBody st) (F q.1)) :
  HotFnQ P w K mg base (k + 1) f fd ps c qq (fun a => spP K mg False (run ps.length N.length (F a))) := by
 obtain ⟨oc, od, dk, doc, pm, an, cdv, ct, osl, rfl, lk, hcd⟩ := Fn.ex
 refine ⟨fun a vs H Q E h => spP_len h, fun A out s H ar us vs Q E q hr hot told hpin e0 hbi rv hsp => ?_⟩
 have hlen := spP_len hsp
 obtain ⟨G, ds, gh, rs, hm⟩ := hsp
 have kin : K.In s.heap := e0.mod.kin.keeps fun i o z => (e0.bs i o z).1
 have nolim : s.heap.NoLimit := e0.mod.nolimit.keeps fun i o z => (e0.bs i o z).1
 have kinds : ∀ y ∈ ps.zip us, (defScope st).names.lookup y.1 = some .local ∨ ((defScope st).names.lookup y.1 = some .cell ∧ ((cellsFrom (s.heap.objs.size + 1) (defScope st).names []).lookup y.1).isSome = true) := fun ⟨n, u⟩ hy =>
  (S.par n (List.of_mem_zip hy).1).imp id fun z => ⟨z, PySem.W.cellsFrom_some _ _ _ (.inl z)⟩
 refine codeAny_call_function hr.depth (kin _ _ lk) rfl S.co S.gen rfl (PySem.W.codeRec_of kin hcd) (hbi _ _ _ _ (wpAny_newFunctionEnv_cells S.kind kinds fun env he s1 x1 => ?_))
 subst he
 refine ⟨nolim.keeps x1.toInCall.keep, codeAny_func ?_⟩
 have I : Inv (L2H.cxH CX0 P w K mg base N qual (defScope st) f cdv A out s H E q) [] (L2.start N vs) H s1 := L2H.inv_startH S hpin e0 hlen rv x1
 obtain ⟨C, t1, t2, t3⟩ := told
 have body := hb cdv A out s H E q (hr.deeper _) ⟨q.2, C, List.mem_singleton.mpr rfl, t1, t2, t3⟩
 have hm' : match run ps.length N.length (F q.1) ds with
   | .ok t => ∀ v G' H', Stp G H G' H' → relO K mg H G' H' t v → Q v H'
   | .ex c => False ∧ ∀ G' H' cls dd, Stp G H G' H' → RX K mg G' H' c cls dd → (fun _ _ _ => False : XK) cls dd H'
   | .bad => False := by
  cases e : run ps.length N.length (F q.1) ds with
  | ok t => rw [e] at hm; exact hm
  | ex c => rw [e] at hm; exact hm.1.elim
  | bad => rw [e] at hm; exact hm
 have go := out_run (X := L2H.cxH CX0 P w K mg base N qual (defScope st) f cdv A out s H E q) (W := W0) (on := False) (a := ps.length) (E := fun _ _ _ => False) (fun z => z) (fun _ _ _ _ z => z) (by rw [← rs.len]; exact hlen) hm'
 refine wpAny_mono ((body.run ⟨H, G, []⟩ rfl).run [] s1 (L2.start N vs) H _ I ⟨G, args N.length ds, args_rep gh rs, go⟩) (fun fl s2 hs => ?_) fun _ _ z => z
 cases fl with
 | ret u =>
  obtain ⟨v, σ2, H2, J, r2, z⟩ := hs
  exact ⟨v, H2, J.os, J.bare, J.base, J.hok, r2, z⟩
 | next =>
  obtain ⟨σ2, H2, J, z⟩ := hs
  exact ⟨V.non, H2, J.os, J.bare, J.base, J.hok, rfl, z⟩
 | brk => exact hs.elim fun _ z => z.elim fun _ z => z.2.elim
 | cont => exact hs.elim fun _ z => z.elim fun _ z => z.2.elim
structure CalHQ (P : Program) (w : World) (K : PySem.W.Frag) (mg : Str → Option Value) (base : Heap) (x : Str) (k : Nat) (c : Str) (qq : Option Addr) (F : Addr → List D → Res OT) : Prop where
 ex : ∃ f fd ps, HotFnQ P w K mg base k f fd ps c qq (fun a => spP K mg False (F a)) ∧ mg x = some (.ref f) ∧ PySem.W.keepIn K (.ref f) = true ∧ Binds K fd ps []
end
section
variable {X : Cx} {W : WW} {e : Expr} {es : List Expr} {fs : En → Res (List D)} {x : Str} {k : Nat} {p pos : Pos} {F : Addr → List D → Res OT} {a : Addr} {c : Str} {qq : Option Addr}
theorem hotQ_pe {t : TA} (cl : CalHQ X.prog X.w X.K X.mg X.base x k c qq F) (hr : L2H.RoomH k X.A) (hh : X.A.handled = some (.ref a)) (cau : CauQ X a c qq) (ha : PA X (e :: es) t) (hg : Gl X x) (hdb : (x == ("__debug__" : Str)) = false)
  (hs : starEach (e :: es) X.env = (false, eval e X.env) :: starEach es X.env) (hp : (backTo pos (starEach es X.env)).any (·.1) = false) : PE X (.Call (.Name x p) (e :: es) [] pos) (fun σ H Q => t σ H fun vs H1 => spP X.K X.mg False (F a) vs H1 Q fun _ _ _ => False) := by
 obtain ⟨f, fd, ps, hf, hm, hk, hbd⟩ := cl.ex
 obtain ⟨oe, C, c1, c2, c3, vs0, c4⟩ := cau.ex
 refine ⟨fun pins s σ H Q I h => wpAny_Call_Name_kw (ld_glob I hg hm (PySem.W.callWith_K (h₀ := X.base) I.ok.mod.kin hk (thn (ha.run pos pins s σ H _ I h) fun us s1 ⟨vs, H1, J, rv, sp⟩ => ⟨J.kIn, ?_⟩) hs hp) hdb)⟩
 have lenq : us.length = ps.length := by rw [← rv.length]; exact hf.len _ _ _ _ _ sp
 have bd := hbd s1 us J.kIn (by rw [List.append_nil]; exact lenq)
 rw [List.append_nil] at bd
 have pin := J.pin (a, oe) (List.mem_append_left _ c1)
 have nst : a ∉ frs X.stack := fun z => by
  rcases List.mem_cons.mp (J.stkSub a z) with z | z
  ·exact pin.2.2.1 z
  ·exact pin.2.2.2.1 z
 refine wpAny_call (codeAny_mono (hf.run X.A X.stack s1 H1 ⟨us, []⟩ us vs Q (fun _ _ _ => False) (a, oe) hr ⟨hh, vs0, c4, c3.2.2 vs0 c4⟩ ⟨C, c2, c3, vs0, c4⟩ ⟨pin.1, pin.2.1, nst, pin.2.2.2.2⟩ J.env0 bd rv sp) fun r s2 z => ?_)
 cases r with
 | error u => exact z.elim
 | ok fl =>
  cases fl with
  | ret u => exact J.after z
  | next => exact z.elim
  | brk => exact z.elim
  | cont => exact z.elim
theorem EO.hotQ (cl : CalHQ X.prog X.w X.K X.mg X.base x k c qq F) (hr : L2H.RoomH k X.A) (hh : X.A.handled = some (.ref a)) (cau : CauQ X a c qq) (ha : EA X W (e :: es) fs) (hg : Gl X x := by rfl) (hdb : (x == ("__debug__" : Str)) = false := by decide)
  (hs : starEach (e :: es) X.env = (false, eval e X.env) :: starEach es X.env := by rfl) (hp : (backTo pos (starEach es X.env)).any (·.1) = false := by rfl) : EO X W (.Call (.Name x p) (e :: es) [] pos) (FL.call (nx0 (F a)) fs) := ⟨fun B => by
 refine PE.mono (hotQ_pe cl hr hh cau (ha.run B) hg hdb hs hp) fun σ H Q ⟨G, ρ, r, h⟩ => ?_
 refine lift.next (rel := relL X.K X.mg) (g := fun ds _ => nx0 (F a) ds) later_O r h fun ds vs G1 H1 r1 s1 q1 w1 => ⟨G1, ds, r1.gh, q1, ?_⟩
 unfold nx0 at w1
 cases e : F a ds with
 | ok t => rw [e] at w1; exact w1
 | ex y => rw [e] at w1; exact w1.elim
 | bad => rw [e] at w1; exact w1⟩
end
end FL
namespace FL
open PySem PySem.Spec PyProof.Rows L2 He
section
variable {K : PySem.W.Frag} {mg : Str → Option Value}
def oexB (K : PySem.W.Frag) (C : Addr) : Bool :=
 (match K.lookup C with
 | some ⟨.type "type", _, .cls cd, sl⟩ => (match cd.mro, sl.toList with
  | .ref C' :: bm, [_, _, _, _, some (.builtin n), _] => C' == C && n == "ValueError.__new__" && !cd.hasDel && cd.hasDict && PySem.HandSPX.refsVE bm
  | _, _ => false)
 | _ => false) && (eqO (PySem.W.findIn K (.ref C) "__setattr__") (some (some (.builtin "object.__setattr__"))) &&
 (decide (PySem.W.subIn K (.ref C) (.type "BaseException") = some true) && (decide (PySem.W.typeIn K (.ref C) = some (.type "type")) && PySem.W.keepIn K (.ref C))))
theorem oexB_ok {C : Addr} (h : oexB K C = true) : L2.OexC K C := by
 unfold oexB at h
 obtain ⟨q, h⟩ := ba h
 obtain ⟨h2, h⟩ := ba h
 obtain ⟨h3, h⟩ := ba h
 obtain ⟨h4, h5⟩ := ba h
 refine ⟨?_, eqO_ok h2, of_decide_eq_true h3, of_decide_eq_true h4, h5⟩
 split at q
 ·rename_i dd cd sl ho
  split at q
  ·rename_i C' bm k0 k1 k2 k3 n k5 hm hs
   simp only [Bool.and_eq_true, beq_iff_eq, Bool.not_eq_true'] at q
   obtain ⟨⟨⟨⟨rfl, rfl⟩, hdel⟩, hdi⟩, ht⟩ := q
   obtain ⟨nm, bs, mro, ns, qn, hd, sn, sub, ab, col, del⟩ := cd
   dsimp only at hm hdel hdi
   subst hm hdel hdi
   have hsl : sl = #[k0, k1, k2, k3, some (.builtin "ValueError.__new__"), k5] := by
    obtain ⟨l⟩ := sl
    simp only at hs
    rw [hs]
   subst hsl
   exact ⟨nm, qn, ns, bs, bm, sn, sub, ab, col, dd, k0, k1, k2, k3, k5, ho, ht⟩
  ·cases q
 ·cases q
def xfkB (K : PySem.W.Frag) (T : List Str) : Bool := T.all fun c => (Fa.glo c).ok K && (L2.xfB K (ga K c) && eqO (PySem.W.findIn K (.ref (ga K c)) "paths") (some none))
theorem xfkB_ok {h : Heap} {T : List Str} (X : K.In h) (G : h.Ns mainGlobals mg) (q : xfkB K T = true) : XfK K mg T := ⟨fun c hc C hC => by
 obtain ⟨q1, q2⟩ := ba (List.all_eq_true.mp q c hc)
 obtain ⟨q2, q3⟩ := ba q2
 rw [glo_ok X G q1] at hC
 cases hC
 exact ⟨L2.xfB_ok q2, eqO_ok q3⟩⟩
end
section
variable {X : Cx} {W : WW} {e : Expr} {f : En → Res D} {T : List Str} {sub : Str → Str → Bool} {p p2 pos : Pos}
theorem EF.isXQv {a : Addr} {c : Str} {q : Option Addr} (cau : CauQ X a c q) (hc : c ∈ T) (k : ExK X.K X.mg T sub) (hm : X.mg "isinstance" = none) (hmv : X.mg "ValueError" = none) (ha : EF X W e f) (hg : Gl X "isinstance" := by rfl) (hg2 : Gl X "ValueError" := by rfl)
  (hs : starEach [e, .Name "ValueError" p2] X.env = (false, eval e X.env) :: starEach [.Name "ValueError" p2] X.env := by rfl) (hs2 : starEach [.Name "ValueError" p2] X.env = (false, eval (.Name "ValueError" p2) X.env) :: starEach [] X.env := by rfl) (hpl : (backTo pos (starEach [.Name "ValueError" p2] X.env)).any (·.1) = false := by rfl) :
  EF X W (.Call (.Name "isinstance" p) [e, .Name "ValueError" p2] [] pos) (op1 (FL.isXQ a q true) f) := ⟨fun B => by
 obtain ⟨oe, C, h1, h2, h3, h4⟩ := cau.ex
 have ek := k.ve c hc C h2
 cases q with
 | none =>
  exact PE.mono (pe_callB (call_isP h1 (k.exc c hc C h2) h3.zc h4) hg hm (by decide +kernel) (pa_cons (ha.run B) (pa_cons (pe_bltn (v := .ty "ValueError") hg2 hmv (by decide +kernel) rfl (by decide) (by decide)) pa_nil hs2) hs) (by decide) (by decide) hs hpl) fun σ H Q ⟨G, ρ, r, h⟩ =>
   lift.next (rel := relD X.K X.mg) (g := fun x _ => FL.ofO (FL.isXQ a none true x)) later_D r h fun z x G1 H1 r1 s1 q1 w1 => by
    cases ez : FL.isXQ a none true z with
    | none => rw [ez] at w1; exact w1.elim
    | some y =>
     rw [ez] at w1
     obtain ⟨rfl, rfl⟩ := isXQ_none ez
     cases (show x = .ref a from q1)
     exact ⟨.ty "ValueError", .type "ValueError", _, rfl, fun u h => by cases h; rfl, ek, w1.ok (Stp.refl r1.gh) rfl⟩
 | some dd =>
  exact PE.mono (pe_callB (call_isQ h1 (k.exc c hc C h2) h3.zc h4) hg hm (by decide +kernel) (pa_cons (ha.run B) (pa_cons (pe_bltn (v := .ty "ValueError") hg2 hmv (by decide +kernel) rfl (by decide) (by decide)) pa_nil hs2) hs) (by decide) (by decide) hs hpl) fun σ H Q ⟨G, ρ, r, h⟩ =>
   lift.next (rel := relD X.K X.mg) (g := fun x _ => FL.ofO (FL.isXQ a (some dd) true x)) later_D r h fun z x G1 H1 r1 s1 q1 w1 => by
    cases ez : FL.isXQ a (some dd) true z with
    | none => rw [ez] at w1; exact w1.elim
    | some y =>
     rw [ez] at w1
     obtain ⟨⟨x', rfl⟩, rfl⟩ := isXQ_some ez
     obtain ⟨w, ex, eg, rw'⟩ := q1
     cases ex
     exact ⟨⟨_, r1.gh _ _ eg⟩, .ty "ValueError", .type "ValueError", _, rfl, fun u h => by cases h; rfl, ek, w1.ok (Stp.refl r1.gh) rfl⟩⟩
end
end FL
namespace FL
open PySem PySem.Spec PyProof.Rows L2 He
section
variable {K : PySem.W.Frag} {mg : Str → Option Value} {h : Heap} {C q : Str} {st : Stmt} {fd : FuncData}
structure InP (K : PySem.W.Frag) (mg : Str → Option Value) (C q : Str) (st : Stmt) : Prop where
 ex : ∃ ca f fd, Fun K "__init__" q st f fd ∧ mg C = some (.ref ca) ∧ L2.OexC K ca ∧ PySem.W.findIn K (.ref ca) "__init__" = some (some (.ref f)) ∧ PySem.W.typeIn K (.ref f) = some (.type "function") ∧ Binds K fd [("self" : Str), ("paths" : Str)] [] ∧ PySem.W.findIn K (.ref ca) "paths" = some none
theorem InP.ofD {T : List Str} (X : K.In h) (G : h.Ns mainGlobals mg) (F : FunD K "__init__" q (defArgs st) (defBody st) (defScope st) [] [] (He.ma K (He.ga K C) "__init__") fd) (c1 : (He.Fa.glo C).ok K = true) (c2 : (He.Fa.meth C "__init__").ok K = true) (c3 : oexB K (He.ga K C) = true) (c4 : xfkB K T = true) (c5 : C ∈ T)
  (b : ∀ (kV doc pm : Value) (an : Option Addr) (cdv ct : Value) (us : List Value), us.length = [("self" : Str), ("paths" : Str)].length → bindArgs (PySem.W.fnOf "__init__" q (defArgs st) (defBody st) (defScope st) .none kV doc pm an cdv ct) ⟨us, []⟩ = pure ([("self" : Str), ("paths" : Str)].zip us)) : InP K mg C q st :=
 ⟨He.ga K C, He.ma K (He.ga K C) "__init__", fd, fun_ofD F, He.glo_ok X G c1, oexB_ok c3, (He.meth_ok c2).at_, beq_iff_eq.mp (He.meth_ok c2).fn, F.bindsN b, ((xfkB_ok X G c4).xf C c5 _ (He.glo_ok X G c1)).2⟩
theorem InP.exc {P : Program} {w : World} {base : Heap} {p1 p2 p3 p4 : Pos} (d : InP K mg C q st) (S : FnScope [("self" : Str), ("paths" : Str)] [("self" : Str), ("paths" : Str)] (defScope st))
  (hb : defBody st = [.Assign [.Attribute (.Name "self" p1) "paths" p2] (.Name "paths" p3) p4]) (hv1 : Vis (defScope st) ("self" : Str)) (hv2 : Vis (defScope st) ("paths" : Str)) : ExcP P w K mg base C 1 := by
 obtain ⟨ca, f, fd, Fn, hC, oe, iC, tI, hbd, hno⟩ := d.ex
 exact ⟨ca, f, fd, _, fnIni Fn S hb hv1 hv2, oe, iC, tI, hC, hbd, hno⟩
def ttQ (fa : List Fa) (T : List Str) (sub : Str → Str → Bool) (cs : List Str) (K : PySem.W.Frag) : Bool := ttF fa T sub K && (xfkB K T && cs.all fun c => oexB K (ga K c))
theorem ttQ_f {fa : List Fa} {T : List Str} {sub : Str → Str → Bool} {cs : List Str} (h : ttQ fa T sub cs K = true) : ttF fa T sub K = true := (ba h).1
theorem ttQ_x {fa : List Fa} {T : List Str} {sub : Str → Str → Bool} {cs : List Str} (h : ttQ fa T sub cs K = true) : xfkB K T = true := (ba (ba h).2).1
theorem ttQ_c {fa : List Fa} {T : List Str} {sub : Str → Str → Bool} {cs : List Str} (h : ttQ fa T sub cs K = true) {c : Str} (hc : c ∈ cs) : oexB K (ga K c) = true := List.all_eq_true.mp (ba (ba h).2).2 c hc
end
end FL
namespace FL
open PySem PySem.Spec PyProof.Rows L2
section
variable {X : Cx} {W : WW} {es : List Expr} {fs : En → ResA}
end
section
open PySem.SeqAt
open AutoSeq1 (wpAny_loadPart')
open MeetsSeq MeetsSeq2 MeetsSeq3 SeqRoads2
variable {prog : Program} {w : World}
end
section
variable {X : Cx} {pins : List (Addr × Obj)} {σ : L2.St} {H G : Hp} {s : Shared}
end
end FL
namespace FL
open PySem PySem.Spec PyProof.Rows L2
def SetG {P : Program} {w : World} {K : Type} [DecidableEq K] (knd : KeyKind P w K) (h : Heap) (a : Addr) (S : K → Bool) (n : Nat) : Prop :=
 ∃ o es ep t, h.get? a = some o ∧ o.ExactSet ∧ o.data = .set es ep t ∧ ElemsOf knd es.toList ∧ (∀ k, S k = true ↔ ∃ e ∈ es.toList, knd.is k e.2 = true) ∧ es.size < scanBound ∧ t.fits es.size = true ∧ es.size = n ∧
  Ris t.place.toList ∧ (w.params.followText "set-order" = true ∨ t.led = true)
section
variable {P : Program} {w : World} {K : Type} [DecidableEq K] {knd : KeyKind P w K} {A : Around} {E : Value → Shared → Prop} {s : Shared} {a : Addr} {S : K → Bool} {n : Nat}
theorem SetG.at {h h' : Heap} (x : SetG knd h a S n) (k : ∀ o, h.get? a = some o → h'.get? a = some o) : SetG knd h' a S n := by
 obtain ⟨o, es, ep, t, ho, rest⟩ := x
 exact ⟨o, es, ep, t, k o ho, rest⟩
theorem SetG.congr {h : Heap} {S' : K → Bool} {n' : Nat} (x : SetG knd h a S n) (e : ∀ k, S' k = S k) (e2 : n' = n) : SetG knd h a S' n' := by
 rw [show S' = S from funext e, e2]; exact x
theorem setG_tail {g : Bool → Sem Unit} (hg : ∀ (b : Bool) (u : Shared) (C : Unit → Shared → Prop), C () u → wpAny (model P w) A (g b) C E u)
  {o : Obj} {es : Array (Int × Value)} {ep : Nat} {t : SetTable} (ho : s.heap.get? a = some o) (hex : o.ExactSet) (hd : o.data = .set es ep t)
  {fs : Array (Int × Value)} {u : SetTable} {S' : K → Bool} (x1 : ElemsOf knd fs.toList) (x2 : ∀ k, S' k = true ↔ ∃ e ∈ fs.toList, knd.is k e.2 = true)
  (x3 : fs.size < scanBound) (x4 : u.fits fs.size = true) (x5 : Ris u.place.toList) (x6 : w.params.followText "set-order" = true ∨ u.led = true) {dum : Bool} {R : Option Bool → Shared → Prop}
  (fin : ∀ h', Heap.SameBut a s.heap h' → SetG knd h' a S' fs.size → R (some true) { s with heap := h' }) :
  wpAny (model P w) A (do
    storeSet a fs u
    if (!dum && u.tooFull) = true then do
      g (relayAll u fs (SetTable.grown fs.size)).2.2
      storeSet a (relayAll u fs (SetTable.grown fs.size)).1 (relayAll u fs (SetTable.grown fs.size)).2.1
      pure (some true)
     else pure (some true)) R E s := by
 refine wpAny_bind (wpAny_storeSet_of ho hd ?_ (fits_of_scanBound x3))
 have o1 := store_at (es' := fs) (t' := u) ho hd
 have b1 := Heap.SameBut.update s.heap a (Obj.putSet fs u)
 split
 ·have y1 := relayAll_perm u fs (SetTable.grown fs.size)
  have y2 := relayAll_fits u fs (SetTable.grown fs.size)
  have y3 := relayAll_ris u fs (SetTable.grown fs.size)
  have y4 := relayAll_led u fs (SetTable.grown fs.size)
  generalize relayAll u fs (SetTable.grown fs.size) = Z at y1 y2 y3 y4 ⊢
  obtain ⟨gs, v, gave⟩ := Z
  dsimp only at y1 y2 y3 y4 ⊢
  have sz : gs.size = fs.size := by rw [← Array.length_toList, y1.length_eq, Array.length_toList]
  have b2 : gs.size < scanBound := by rw [sz]; exact x3
  refine wpAny_bind (hg _ _ _ ?_)
  refine wpAny_bind (wpAny_storeSet_of o1 rfl ?_ (fits_of_scanBound b2))
  have o2 := store_at (es' := gs) (t' := v) o1 rfl
  refine wpAny_pure (fin _ (b1.trans (Heap.SameBut.update _ a _)) ?_)
  exact ⟨_, gs, _, v, o2, hex, rfl, fun e he => x1 e (y1.mem_iff.mp he), fun k => (x2 k).trans ⟨fun ⟨e, m, q⟩ => ⟨e, y1.mem_iff.mpr m, q⟩, fun ⟨e, m, q⟩ => ⟨e, y1.mem_iff.mp m, q⟩⟩, b2, y2, sz, y3, x6.imp id fun z => by rw [y4]; exact z⟩
 ·exact wpAny_pure (fin _ b1 ⟨_, fs, _, u, o1, hex, rfl, x1, x2, x3, x4, rfl, x5, x6⟩)
theorem setG_add {k : K} {x : Value} {Q : Bool → Shared → Prop} (hkey : knd.is k x = true) (hsc : x.scannable = true) (R : SetG knd s.heap a S n) (room : n + 1 < scanBound)
  (hQ : ∀ h', Heap.SameBut a s.heap h' → SetG knd h' a (fun j => S j || decide (j = k)) (if S k = true then n else n + 1) → Q (!S k) { s with heap := h' }) :
  wpAny (model P w) A (setAddHashed a x (knd.hash k)) Q E s := by
 obtain ⟨o, es, ep, t, ho, hex, hd, hel, hm, hb, hf, hn, hr, hl⟩ := R
 unfold setAddHashed setAddHashedIn
 refine wpAny_holding (wpAny_bind (wpAny_setState_of ho hd hf ?_))
 dsimp only
 rw [byScan_of hsc hb hel]
 simp only [↓reduceIte]
 unfold setAddByScan
 refine wpAny_bind ?_
 refine wpAny_bind (wpAny_rule ?_)
 refine wpAny_bind (wpAny_setScan_of hkey ho hd hf hel ?_)
 cases hfi : List.findIdx? (fun e => knd.is k e.2) es.toList with
 | some j =>
  dsimp only
  obtain ⟨hj, pj, _⟩ := List.findIdx?_eq_some_iff_getElem.mp hfi
  have hSk : S k = true := (hm k).2 ⟨es.toList[j], List.getElem_mem hj, pj⟩
  refine wpAny_pure (wpAny_pure ?_)
  have q := hQ s.heap (Heap.SameBut.refl a s.heap) ⟨o, es, ep, t, ho, hex, hd, hel, fun i => by
   rw [Bool.or_eq_true, decide_eq_true_eq, ← hm i]
   exact ⟨fun z => z.elim id (fun e => e ▸ hSk), .inl⟩, hb, hf, by rw [if_pos hSk]; exact hn, hr, hl⟩
  rw [hSk] at q
  exact q
 | none =>
  dsimp only
  have hSk : S k = false := by
   cases q : S k with
   | false => rfl
   | true =>
    obtain ⟨e, he, q2⟩ := (hm k).1 q
    have c := List.findIdx?_eq_none_iff.mp hfi e he
    rw [q2] at c
    cases c
  have hgw : ∀ (b : Bool) {u : Shared} {C : Unit → Shared → Prop}, C () u → wpAny (model P w) A (match b with | true => rule "set.scan.the-table-gave-way" | false => pure ()) C E u :=
   fun b u C q => by cases b <;> first | exact wpAny_pure q | exact wpAny_rule q
  have y1 := layNew_perm t es (knd.hash k) x
  have y2 := layNew_fits t es (knd.hash k) x
  have y3 := layNew_ris t es (knd.hash k) x hr
  have y4 := layNew_led t es (knd.hash k) x
  generalize layNew t es (knd.hash k) x = Z at y1 y2 y3 y4 ⊢
  obtain ⟨fs, t1, dum, gave⟩ := Z
  dsimp only at y1 y2 y3 y4 ⊢
  rw [Array.toList_push] at y1
  have pc : fs.toList.Perm ((knd.hash k, x) :: es.toList) := y1.trans (List.perm_append_singleton _ _)
  have x1 : ElemsOf knd fs.toList := fun e he => by
   rcases List.mem_cons.mp (pc.mem_iff.mp he) with z | z
   ·rw [z]; exact ⟨⟨k, hkey, rfl⟩, hsc⟩
   ·exact hel e z
  have x2 : ∀ i, (S i || decide (i = k)) = true ↔ ∃ e ∈ fs.toList, knd.is i e.2 = true := mem_push_iff hkey hm y1
  have sz : fs.size = n + 1 := by rw [← Array.length_toList, pc.length_eq, List.length_cons, Array.length_toList, hn]
  have x3 : fs.size < scanBound := by rw [sz]; exact room
  have x6 : w.params.followText "set-order" = true ∨ t1.led = true := hl.imp id fun z => by rw [y4]; exact z
  have fin : ∀ h', Heap.SameBut a s.heap h' → SetG knd h' a (fun j => S j || decide (j = k)) fs.size → Q true { s with heap := h' } := fun h' sb r => by
   have q := hQ h' sb
   rw [hSk] at q
   rw [sz] at r
   exact q r
  refine wpAny_bind (hgw _ ?_)
  split
  ·refine wpAny_bind ?_
   rw [hashByValue_scannable 8 hsc]
   refine wpAny_pure ?_
   refine setG_tail ?_ ho hex hd x1 x2 x3 ?_ ?_ ?_ ?_
   ·intro b u C q; cases b <;> first | exact wpAny_pure q | exact wpAny_rule q
   ·first | (split <;> first | exact y2 | exact SetTable.fits_plain_off y2) | exact y2
   ·first | (split <;> exact y3) | exact y3
   ·first | (split <;> exact x6) | exact x6
   ·intro h' sb r; dsimp only; exact wpAny_pure (fin h' sb r)
  ·refine wpAny_bind (wpAny_pure ?_)
   simp only [↓reduceIte]
   refine setG_tail ?_ ho hex hd x1 x2 x3 y2 y3 x6 ?_
   ·intro b u C q; cases b <;> first | exact wpAny_pure q | exact wpAny_rule q
   ·intro h' sb r; dsimp only; exact wpAny_pure (fin h' sb r)
end
def SetX (P : Program) (w : World) (h : Heap) (a : Addr) (ss : List Str) : Prop := SetG (strKind P w) h a (fun j => decide (j ∈ ddS ss)) (ddS ss).length
section
variable {P : Program} {w : World} {A : Around} {E : Value → Shared → Prop} {s : Shared}
theorem SetX.at {h h' : Heap} {a : Addr} {ss : List Str} (x : SetX P w h a ss) (k : ∀ o, h.get? a = some o → h'.get? a = some o) : SetX P w h' a ss := by
 obtain ⟨o, es, ep, t, ho, rest⟩ := x
 exact ⟨o, es, ep, t, k o ho, rest⟩
theorem set_update_strX {I : Addr} {fp wr : List Addr} {G : Array GenState → Array GenState → Prop} {n : Nat} {Pv : Nat → Value → Prop} {St : Nat → Shared → Prop} {R : Result → Shared → Prop}
  (W : WalksS P w A.in1 I fp wr G n Pv St) (S : Addr) (out : S ∉ fp) (ss : List Str) (hn : n = ss.length) (hb : ss.length + 1 < scanBound) (val : ∀ i v, Pv i v → ∃ k t, ss[i]? = some k ∧ v = .str k t) :
  ∀ (k i : Nat) (u : Shared), n - i = k → i ≤ n → St i u → SetX P w u.heap S (ss.take i) → (∀ t, Moved (S :: wr) G u t → SetX P w t.heap S ss → R (.ok (.ret .none)) t) →
   codeAny (model P w) A (.builtin "set.update.loop" ⟨[.ref S, .ref I], []⟩) R u := by
 have so : S ∉ wr := fun q => out (W.sub _ q)
 have up : ∀ b ∈ wr, b ∈ S :: wr := fun b q => List.mem_cons_of_mem _ q
 intro k
 induction k with
 | zero =>
  intro i u e1 e2 e3 e4 fin
  obtain rfl : i = n := by omega
  refine codeAny_builtin F.entry_set_update_loop ?_
  rw [Around.under_plainId F.plain_set_update_loop _]
  show wpAny _ A.in1 (pyNext (.ref I) >>= _) _ _ u
  refine wpAny_bind (W.done u _ _ e3 fun t m => ?_)
  show wpAny _ A.in1 (PySem.ret Value.none) _ _ t
  rw [List.take_of_length_le (by omega)] at e4
  exact wpAny_pure (fin t (m.mono up) (e4.at fun o q => m.heap S o so q))
 | succ k ih =>
  intro i u e1 e2 e3 e4 fin
  have lt : i < n := by omega
  refine codeAny_builtin F.entry_set_update_loop ?_
  rw [Around.under_plainId F.plain_set_update_loop _]
  show wpAny _ A.in1 (pyNext (.ref I) >>= _) _ _ u
  refine wpAny_bind (W.item i u _ _ lt e3 fun v t hP e5 m => ?_)
  obtain ⟨z, tk, hz, rfl⟩ := val i v hP
  have e6 : SetX P w t.heap S (ss.take i) := e4.at fun o q => m.heap S o so q
  show wpAny _ A.in1 (holding [Value.str z tk] (setAdd S (.str z tk)) >>= _) _ _ t
  refine wpAny_bind (wpAny_holding ?_)
  unfold setAdd
  refine wpAny_holding ?_
  refine wpAny_bind ((strKind P w).pyHash (k := z) (strKind_is P w z tk) ?_)
  have room : (ddS (ss.take i)).length + 1 < scanBound := by have := ddS_len ss i; omega
  refine setG_add (knd := strKind P w) (s := { t with toks := t.toks + 1 }) (strKind_is P w z tk) rfl e6 room fun h' sb e7 => ?_
  have e8 : SetX P w h' S (ss.take (i + 1)) := by
   unfold SetX
   rw [ddS_take hz]
   refine SetG.congr e7 (fun j => ?_) ?_
   ·rw [Bool.eq_iff_iff, Bool.or_eq_true, decide_eq_true_eq, decide_eq_true_eq, decide_eq_true_eq]
    exact ddS_snoc_mem _ _ _
   ·rw [ddS_snoc]
    by_cases c : z ∈ ddS (ss.take i)
    ·rw [if_pos c, if_pos (decide_eq_true c)]
    ·rw [if_neg c, if_neg (by rw [decide_eq_false c]; decide), List.length_append, List.length_singleton]
  refine wpAny_pure ⟨plainId_quiet F.plain_set_update_loop _, ih (i + 1) _ (by omega) lt (W.frame _ t _ _ e5 (Nat.le_succ _) fun b hb o e => ?_) e8 fun t2 m2 e9 => fin t2 (Moved.trans W.gtrans ?_ m2) e9⟩
  ·rw [sb.2 b fun q : b = S => out (q ▸ hb)]; exact e
  ·refine (m.mono up).then_heap (Nat.le_succ _) fun b o hb e => ?_
   rw [sb.2 b fun q : b = S => hb (q ▸ List.mem_cons_self)]; exact e
set_option maxHeartbeats 3200000 in
theorem setX_init {l : Addr} {its : Array Value} (ns : List Str) {R : Result → Shared → Prop} (hh : A.handled = none) (hl : s.heap.IsList l its) (hi : StrsAre its.toList ns) (hb : ns.length + 1 < scanBound)
  (hR : ∀ h' tk, SetX P w h' s.heap.objs.size ns → (∀ b o, s.heap.get? b = some o → h'.get? b = some o) → R (.ok (.ret .none)) { s with heap := h', toks := tk }) :
  codeAny (model P w) A (.call (.builtin "set.__init__") ⟨[.ref s.heap.objs.size, .ref l], []⟩) R { s with heap := hp1 w s.heap } := by
 have sz : its.size = ns.length := by
  have q := strs_len hi
  rwa [Array.length_toList] at q
 have g0 : (hp1 w s.heap).get? s.heap.objs.size = some (nobj w) := Heap.get?_push_size _ rfl
 have ty : Shared.TypeIs { s with heap := hp1 w s.heap } (.ref s.heap.objs.size) "set" := ⟨_, g0, rfl⟩
 refine codeAny_call_builtin F.called_set.init.plain F.entry_set_init (check_set_init_1 ty ?_)
 have l1 : (hp1 w s.heap).IsList l its := hl.push _
 have ll : l < s.heap.objs.size := by
  obtain ⟨o, e, _⟩ := hl
  exact Heap.lt_size e
 obtain ⟨⟨oc, od, odt, osl⟩, e1, e2, n, e3⟩ := id l1
 dsimp only at e2 e3
 subst e2 e3
 have q1 := F.sub_list_set
 have q2 := F.sub_list_frozenset
 have q3 : (Value.type "list" == Value.type "dict") = false := by decide
 unfold Builtin.«set.__init__» noKeywords Builtin.Frozenset.updateFrom
 generalize hPI : pyIter = PI
 wp_walk
 subst hPI
 refine wpAny_pyIter_list l1 ?_
 refine wpAny_bind (wpAny_runValue ?_)
 have z1 : (hp1 w s.heap).objs.size = s.heap.objs.size + 1 := Heap.size_push ..
 have n1 : l ≠ (hp1 w s.heap).objs.size := by rw [z1]; exact Nat.ne_of_lt (Nat.lt_succ_of_lt ll)
 have n2 : s.heap.objs.size ∉ [(hp1 w s.heap).objs.size, l] := fun m => by
  rw [z1] at m
  rcases List.mem_cons.mp m with m | m
  ·exact Nat.ne_of_lt (Nat.lt_succ_self _) m
  ·exact Nat.ne_of_gt ll (List.mem_singleton.mp m)
 have hv : ∀ (i : Nat) (v : Value), its[i]? = some v → ∃ k t, ns[i]? = some k ∧ v = .str k t := fun i v e => strs_get hi i v (by rw [Array.getElem?_toList]; exact e)
 have hd3 : A.in1.in1.handled = none := by simp [hh]
 refine set_update_strX ((Walks.list hd3 _ l n1 its).toS) s.heap.objs.size n2 ns sz hb hv (its.size - 0) 0 _ (by omega) (Nat.zero_le _) ⟨⟨_, Heap.get?_push_size _ rfl, rfl, rfl⟩, l1.push _⟩ ?gStart ?gEnd
 case gStart =>
  exact ⟨_, #[], 0, _, Heap.get?_push_of_some _ g0, ⟨rfl, rfl, rfl⟩, rfl, (fun e he => by simp at he), (fun k => by simp [ddS]), (by decide), (by rfl), rfl, List.Pairwise.nil, by
   show _ ∨ (!w.params.followText "set-order") = true
   cases w.params.followText "set-order"
   ·exact .inr rfl
   ·exact .inl rfl⟩
 case gEnd =>
  rintro ⟨h', g', d', tk', os'⟩ mv hS
  obtain rfl : g' = s.gens := mv.gens
  obtain rfl : d' = s.drawn := mv.drawn
  obtain rfl : os' = s.os := mv.os
  show wpAny _ _ _ _ _ _
  refine wpAny_pure ?_
  show wpAny _ _ (PySem.ret Value.none) _ _ _
  refine wpAny_pure (hR h' tk' hS fun b o e => ?_)
  have hlt : b < s.heap.objs.size := Heap.lt_size e
  refine mv.heap b o (fun m => ?_) (Heap.get?_push_of_some _ (Heap.get?_push_of_some _ e))
  rcases List.mem_cons.mp m with m | m
  ·exact Nat.ne_of_lt hlt m
  ·rw [List.mem_singleton.mp m, z1] at hlt
   exact absurd (Nat.lt_trans hlt (Nat.lt_succ_self _)) (Nat.lt_irrefl _)
set_option maxHeartbeats 3200000 in
theorem call_setX {l : Addr} {its : Array Value} (ns : List Str) {Q : Value → Shared → Prop} (hh : A.handled = none) (hl : s.heap.IsList l its) (hi : StrsAre its.toList ns) (hb : ns.length + 1 < scanBound)
  (h : ∀ h' tk, SetX P w h' s.heap.objs.size ns → (∀ b o, s.heap.get? b = some o → h'.get? b = some o) → Q (.ref s.heap.objs.size) { s with heap := h', toks := tk }) :
  wpAny (model P w) A (PySem.call (.type "set") [.ref l]) Q E s := by
 obtain ⟨c, tl, hmro⟩ := F.called_set.mro
 have k1 := F.called_set.made
 have k2 := F.called_set.sub
 refine wpAny_call (codeAny_of_tree ?_)
 show wpAny _ _ (callAny (.type "set") _) _ _ _
 refine wpAny_pure ⟨Code.quiet_builtin _ (by decide +kernel), codeAny_builtin F.entry_type_call ?_⟩
 rw [Around.under_plain (weight_type_call_type "set" [.ref l] []) rfl]
 have k3 := F.called_set.notType
 have k4 := F.called_set.canCreate
 have k5 := F.typeCall_set_1 (.ref l)
 repeat (any_goals (first | assumption | wp_step))
 refine codeAny_mono (code_set_led1 (.ref l) (E := E) (Q₁ := fun obj t => obj = .ref s.heap.objs.size ∧ t = { s with heap := hp1 w s.heap }) ⟨rfl, rfl⟩) fun r t hr => ?_
 match r, hr with
 | .error e, hr => exact hr
 | .ok (.ret obj), ⟨e1, e2⟩ =>
  subst e1 e2
  have ty : Shared.TypeIs { s with heap := hp1 w s.heap } (.ref s.heap.objs.size) "set" := ⟨_, Heap.get?_push_size _ rfl, rfl⟩
  have k6 := F.called_set.init.lookup
  have k7 := F.called_set.init.bind (.ref s.heap.objs.size)
  repeat (any_goals (first | assumption | wp_step))
  refine codeAny_mono (setX_init (R := wants (fun r t => r = .none ∧ ∃ h' tk, t = { s with heap := h', toks := tk } ∧ SetX P w h' s.heap.objs.size ns ∧ ∀ b o, s.heap.get? b = some o → h'.get? b = some o) E) ns ?_ hl hi hb fun h' tk x1 x3 => ⟨rfl, h', tk, rfl, x1, x3⟩) fun r2 t2 hr2 => ?_
  ·simp [hh]
  match r2, hr2 with
  | .error e, hr2 => exact hr2
  | .ok (.ret r), ⟨e3, h', tk, e4, x1, x3⟩ =>
   subst e3 e4
   repeat (any_goals (first | assumption | wp_step))
   exact h _ _ x1 x3
  | .ok .next, hr2 => exact hr2.elim
  | .ok .brk, hr2 => exact hr2.elim
  | .ok .cont, hr2 => exact hr2.elim
 | .ok .next, hr => exact hr.elim
 | .ok .brk, hr => exact hr.elim
 | .ok .cont, hr => exact hr.elim
end
section
variable {X : Cx} {W : WW} {fs : En → Res (List D)} {x : Str} {p p2 pos : Pos} {a : Expr}
end
end FL
namespace FL
open PySem PySem.Spec PyProof.Rows L2
section
variable {X : Cx}
end
end FL
namespace FL
open PySem PySem.Spec PyProof.Rows L2
section
variable {X : Cx} {W : WW} {a e : Expr} {es : List Expr} {fa : En → Res D} {pos p p2 pos2 : Pos}
end
end FL
namespace FL
open PySem PySem.Spec PyProof.Rows L2
section
variable {X : Cx}
end
end FL
namespace FL
open PySem PySem.Spec PyProof.Rows L2
section
variable {X : Cx} {W : WW} {e o : Expr} {es : List Expr} {fo : En → Res OT} {fs : En → Res (List D)} {apos cpos : Pos} {T name id : String} {M : OT → List OT → Option (OT × OT)}
end
end FL
namespace FL
open PySem PySem.Spec PyProof.Rows L2 He
section
variable {K : PySem.W.Frag} {mg : Str → Option Value} {h : Heap} {C : Str}
structure ICls (K : PySem.W.Frag) (mg : Str → Option Value) (C : Str) : Prop where
 ex : ∃ ca, mg C = some (.ref ca) ∧ C8.InsC K ca
def insB (K : PySem.W.Frag) (C : Addr) : Bool := eqO (PySem.W.findIn K (.ref C) "__class__") (some (some (.builtin "object.__class__"))) && (decide (PySem.W.specialIn K (.builtin "object.__class__") "__get__" = some (some (.builtin "getset_descriptor.__get__"))) &&
 (decide (PySem.W.takesIn K (.builtin "object.__class__") = some true) && (decide (PySem.W.mroIn K C (.type "object") = some true) && decide (PySem.W.kitOne K (.ref C) (.ref C) = some true))))
theorem ICls.of (X : K.In h) (G : h.Ns mainGlobals mg) (c1 : (He.Fa.glo C).ok K = true) (c2 : (He.Fa.cls C).ok K = true) (c3 : insB K (He.ga K C) = true) : ICls K mg C := by
 obtain ⟨a1, c3⟩ := ba c3
 obtain ⟨a2, c3⟩ := ba c3
 obtain ⟨a3, c3⟩ := ba c3
 obtain ⟨a4, a5⟩ := ba c3
 exact ⟨He.ga K C, He.glo_ok X G c1, He.cls_ok c2, eqO_ok a1, of_decide_eq_true a2, of_decide_eq_true a3, of_decide_eq_true a4, of_decide_eq_true a5⟩
end
section
variable {X : Cx} {W : WW} {a : Expr} {f : En → Res D} {p p2 pos : Pos} {C : Str}
end
end FL
namespace FL
open PySem PySem.Spec PyProof.Rows L2
end FL
namespace FL
open PySem PySem.Spec PyProof.Rows L2
section
variable {X : Cx} {W : WW} {io : List Nat} {T : List Str} {sub : Str → Str → Bool}
end
end FL
namespace FL
open PySem PySem.Spec PyProof.Rows L2
section
variable {K : PySem.W.Frag} {mg : Str → Option Value} {B : Bs} {G H : Hp} {σ : L2.St} {ρ : En} {s : Nat} {t0 : OT} {p : List Nat} {ks : List Key} {us : List OT}
end
section
variable {X : Cx} {W : WW} {io : List Nat} {B : Bs} {N : Ends} {G H G2 : Hp} {σ : L2.St} {F : En → Flw} {s : Nat} {p : List Nat}
end
end FL
namespace FL
open PySem PySem.Spec PyProof.Rows L2
structure RunG (P : Program) (w : World) (K : PySem.W.Frag) (mg : Str → Option Value) (base : Heap) (f : Addr) (fd : FuncData) (y : Str) (sp : Sp) : Prop where
 go : ∀ (s : Shared) (H : Hp) (u : Value) (v : V) (Q : VK), Env0 P w K mg base callerA [] s H → BindsTo s fd ⟨[u], []⟩ [(y, u)] → RelV v u → sp [v] H Q (fun _ _ _ => False) →
  codeAny (model P w) callerA (.call (.ref f) ⟨[u], []⟩) (fun r s' => ∃ u, r = .ok (.ret u) ∧ CE [] P w H s Q u s') s
section
variable {P : Program} {w : World} {K : PySem.W.Frag} {mg : Str → Option Value} {base : Heap}
theorem RunG.imp {f : Addr} {fd : FuncData} {y : Str} {sp sp' : Sp} (r : RunG P w K mg base f fd y sp) (h : ∀ vs H Q E, sp' vs H Q E → sp vs H Q E) : RunG P w K mg base f fd y sp' := ⟨fun s H u v Q e b rv q => r.go s H u v Q e b rv (h _ _ _ _ q)⟩
end
end FL
namespace FL
open PySem PySem.Spec PyProof.Rows L2
mutual
def plainX : Nat → D → Bool
 | _, .non => true
 | _, .bl _ => true
 | _, .int _ => true
 | _, .str _ => true
 | n, .lst xs => plainXs n xs
 | n, .tup xs => plainXs n xs
 | n, .dK ks xs => (ks.all fun k => match k with | .inr _ => true | .inl _ => false) && plainXs n xs
 | _, _ => false
def plainXs : Nat → List D → Bool
 | 0, _ => false
 | _ + 1, [] => true
 | n + 1, x :: xs => plainX n x && plainXs (n + 1) xs
end
def pyKey : Key → PyData
 | .inr z => .str z
 | .inl i => .int i
mutual
def pyX : D → PyData
 | .non => .none
 | .bl b => .bool b
 | .int i => .int i
 | .str z => .str z
 | .lst xs => .list (pyXs xs)
 | .tup xs => .tuple (pyXs xs)
 | .dK ks xs => .dict ((ks.map pyKey).zip (pyXs xs))
 | _ => .none
def pyXs : List D → List PyData
 | [] => []
 | x :: xs => pyX x :: pyXs xs
end
def sysB (K : PySem.W.Frag) : Bool := match K.lookup sysModules with
 | some o => match o.data with | .dict _ _ => true | _ => false
 | none => false
section
variable {X : Cx} {pins : List (Addr × Obj)} {σ : L2.St} {H G : Hp} {s : Shared}
theorem sys_ne (I : Inv X pins σ H s) (hs : sysB X.K = true) {a : Addr} {o : Obj} {xs : Array Value} {n : Nat} (h : s.heap.get? a = some o) (hd : o.data = .seq xs n) : a ≠ sysModules := by
 rintro rfl
 unfold sysB at hs
 split at hs
 ·rename_i o' e
  rw [I.kIn _ _ e] at h
  cases h
  rw [hd] at hs
  cases hs
 ·cases hs
theorem pyXs_len : ∀ ds : List D, (pyXs ds).length = ds.length
 | [] => rfl
 | d :: ds => by rw [pyXs, List.length_cons, pyXs_len ds]; rfl
theorem zip_fst {α β : Type} : ∀ {as : List α} {bs : List β}, as.length = bs.length → (as.zip bs).map (·.1) = as
 | [], [], _ => rfl
 | a :: as, b :: bs, h => by
  rw [List.zip_cons_cons, List.map_cons, zip_fst (by simpa using h)]
 | [], b :: bs, h => by cases h
 | a :: as, [], h => by cases h
theorem zip_snd {α β : Type} : ∀ {as : List α} {bs : List β}, as.length = bs.length → (as.zip bs).map (·.2) = bs
 | [], [], _ => rfl
 | a :: as, b :: bs, h => by
  rw [List.zip_cons_cons, List.map_cons, zip_snd (by simpa using h)]
 | [], b :: bs, h => by cases h
 | a :: as, [], h => by cases h
theorem ents {h : Heap} {P : Program} {w : World} : ∀ {es : List DictEntry} {vs : List (Key × Value)}, Pairs (mixKind P w) es vs → ReadsAll h (es.map (·.key)) ((vs.map (·.1)).map pyKey) [] ∧ es.map (·.val) = vs.map (·.2)
 | _, _, .nil => ⟨.nil, rfl⟩
 | e :: es, (k, u) :: vs, .cons h1 h2 t => by
  obtain ⟨q1, q2⟩ := ents (h := h) t
  refine ⟨?_, by rw [List.map_cons, List.map_cons, h2, q2]⟩
  rcases keyIs_shape h1 with ⟨i, t, e1, e2⟩ | ⟨z, t, e1, e2⟩
  ·simp only at e1
   subst e1
   rw [List.map_cons, e2]
   exact ReadsAll.cons (as := []) (bs := []) (Reads.int i t) q1
  ·simp only at e1
   subst e1
   rw [List.map_cons, e2]
   exact ReadsAll.cons (as := []) (bs := []) (Reads.str z t) q1
theorem kv_vals : ∀ {kvs : List (Key × V)} {vs : List (Key × Value)}, KV kvs vs → Vals (kvs.map (·.2)) (vs.map (·.2)) ∧ kvs.map (·.1) = vs.map (·.1)
 | _, _, .nil => ⟨.nil, rfl⟩
 | _, _, .cons h t => by
  obtain ⟨q1, q2⟩ := kv_vals t
  exact ⟨.cons h.2 q1, by rw [List.map_cons, List.map_cons, h.1, q2]⟩
mutual
theorem pyX_reads (I : Inv X pins σ H s) (gh : Same G H) (hs : sysB X.K = true) : ∀ (n : Nat) (d : D) (v : V) (u : Value), plainX n d = true → R X.K X.mg G d v → RelV v u → ∃ as, Reads s.heap u (pyX d) as ∧ sysModules ∉ as
 | _, .non, v, u, _, r, ru => by
  rw [show v = .non from r] at ru
  cases ru
  exact ⟨_, Reads.none, by simp⟩
 | _, .bl b, v, u, _, r, ru => by
  rw [show v = .bl b from r] at ru
  cases ru
  exact ⟨_, Reads.bool b, by simp⟩
 | _, .int i, v, u, _, r, ru => by
  rw [show v = .int i from r] at ru
  obtain ⟨t, rfl⟩ := ru
  exact ⟨_, Reads.int i t, by simp⟩
 | _, .str z, v, u, _, r, ru => by
  rw [show v = .str z from r.1] at ru
  obtain ⟨t, rfl⟩ := ru
  exact ⟨_, Reads.str z t, by simp⟩
 | n, .lst xs, v, u, p, r, ru => by
  obtain ⟨a, vs, rfl, l, e, q⟩ := r.lst
  cases ru
  obtain ⟨its, rv, ⟨o, n', ho, hc, _, hd⟩, _⟩ := I.list (SqL.of (gh _ _ e))
  obtain ⟨as, hr, hn⟩ := pyXs_reads I gh hs n xs vs its (by simpa [plainX] using p) q rv
  refine ⟨_, Reads.list ho hc hd hr, ?_⟩
  rw [List.mem_cons, not_or]
  exact ⟨Ne.symm (sys_ne I hs ho hd), hn⟩
 | n, .tup xs, v, u, p, r, ru => by
  obtain ⟨a, vs, rfl, l, e, q⟩ := r.tup
  cases ru
  obtain ⟨its, rv, ⟨o, ho, hc, n', hd⟩, _⟩ := I.tuple (SqT.of (gh _ _ e))
  obtain ⟨as, hr, hn⟩ := pyXs_reads I gh hs n xs vs its (by simpa [plainX] using p) q rv
  exact ⟨_, Reads.tuple ho hc hd hr, hn⟩
 | n, .dK ks xs, v, u, p, r, ru => by
  obtain ⟨a, vs, rfl, hl, hrd, q⟩ := r
  cases ru
  simp only [plainX, Bool.and_eq_true] at p
  have hv : xs.length = vs.length := (Rs.len q).symm
  obtain ⟨_, hsy, ws, rel, o, es, ep, ho, hx, hd, _, hp, _⟩ := dk_rd I.hok (Rd.mono gh hrd)
  obtain ⟨k1, k2⟩ := kv_vals rel
  have hl2 : ks.length = vs.length := by rw [hl, hv]
  rw [zip_snd hl2] at k1
  rw [zip_fst hl2] at k2
  obtain ⟨e1, e2⟩ := ents (h := s.heap) hp
  obtain ⟨bs, hr, hn⟩ := pyXs_reads I gh hs n xs vs _ p.2 q k1
  rw [← k2] at e1
  rw [← e2] at hr
  refine ⟨_, Reads.dict (as := []) (bs := bs) ho hx.1 hd ?_ ?_, ?_⟩
  ·rw [zip_fst (by rw [List.length_map, pyXs_len]; omega)]
   exact e1
  ·rw [zip_snd (by rw [List.length_map, pyXs_len]; omega)]
   exact hr
  ·simp only [List.append_nil, List.cons_append, List.nil_append, List.mem_cons, not_or]
   exact ⟨fun e => by rw [← e] at hsy; simp at hsy, hn⟩
 | _, .dT _ _, _, _, p, _, _ => by simp [plainX] at p
 | _, .ins _ _ _, _, _, p, _, _ => by simp [plainX] at p
 | _, .scr _, _, _, p, _, _ => by simp [plainX] at p
 | _, .exn _, _, _, p, _, _ => by simp [plainX] at p
 | _, .exq _ _ _, _, _, p, _, _ => by simp [plainX] at p
theorem pyXs_reads (I : Inv X pins σ H s) (gh : Same G H) (hs : sysB X.K = true) : ∀ (n : Nat) (ds : List D) (vs : List V) (us : List Value), plainXs n ds = true → Rs X.K X.mg G ds vs → Vals vs us → ∃ as, ReadsAll s.heap us (pyXs ds) as ∧ sysModules ∉ as
 | 0, _, _, _, p, _, _ => by simp [plainXs] at p
 | n + 1, [], vs, us, p, r, rv => by
  rw [show vs = [] from r] at rv
  cases rv
  exact ⟨_, ReadsAll.nil, by simp⟩
 | n + 1, d :: ds, vs, us, p, r, rv => by
  obtain ⟨v, t, rfl, h, q⟩ := r
  simp only [plainXs, Bool.and_eq_true] at p
  cases rv with
  | cons r1 r2 =>
   obtain ⟨as, q1, n1⟩ := pyX_reads I gh hs n d _ _ p.1 h r1
   obtain ⟨bs, q2, n2⟩ := pyXs_reads I gh hs (n + 1) ds _ _ p.2 q r2
   refine ⟨_, ReadsAll.cons q1 q2, ?_⟩
   rw [List.mem_append, not_or]
   exact ⟨n1, n2⟩
end
theorem depthAll_le {n : Nat} : ∀ {xs : List PyData}, (∀ x ∈ xs, x.depth ≤ n) → PyData.depthAll xs ≤ n
 | [], _ => by simp [PyData.depthAll]
 | x :: xs, h => by
  have := h x List.mem_cons_self
  have := depthAll_le fun y hy => h y (List.mem_cons_of_mem _ hy)
  simp only [PyData.depthAll]
  omega
theorem depthKv_le {n : Nat} : ∀ {ks : List Key} {xs : List PyData}, (∀ x ∈ xs, x.depth ≤ n) → PyData.depthKv ((ks.map pyKey).zip xs) ≤ n
 | [], xs, _ => by simp [PyData.depthKv]
 | k :: ks, [], _ => by simp [PyData.depthKv]
 | k :: ks, x :: xs, h => by
  have := h x List.mem_cons_self
  have := depthKv_le (ks := ks) fun y hy => h y (List.mem_cons_of_mem _ hy)
  have e : (pyKey k).depth = 0 := by cases k <;> simp [pyKey, PyData.depth]
  simp only [List.map_cons, List.zip_cons_cons, PyData.depthKv, e]
  omega
mutual
theorem pyX_depth : ∀ (n : Nat) (d : D), plainX n d = true → (pyX d).depth ≤ n
 | _, .non, _ => by simp [pyX, PyData.depth]
 | _, .bl _, _ => by simp [pyX, PyData.depth]
 | _, .int _, _ => by simp [pyX, PyData.depth]
 | _, .str _, _ => by simp [pyX, PyData.depth]
 | n, .lst xs, p => by
  obtain ⟨h1, h2⟩ := pyXs_depth n xs (by simpa [plainX] using p)
  have := depthAll_le h2
  simp only [pyX, PyData.depth]
  omega
 | n, .tup xs, p => by
  obtain ⟨h1, h2⟩ := pyXs_depth n xs (by simpa [plainX] using p)
  have := depthAll_le h2
  simp only [pyX, PyData.depth]
  omega
 | n, .dK ks xs, p => by
  simp only [plainX, Bool.and_eq_true] at p
  obtain ⟨h1, h2⟩ := pyXs_depth n xs p.2
  have := depthKv_le (ks := ks) h2
  simp only [pyX, PyData.depth]
  omega
 | _, .dT _ _, p => by simp [plainX] at p
 | _, .ins _ _ _, p => by simp [plainX] at p
 | _, .scr _, p => by simp [plainX] at p
 | _, .exn _, p => by simp [plainX] at p
 | _, .exq _ _ _, p => by simp [plainX] at p
theorem pyXs_depth : ∀ (n : Nat) (ds : List D), plainXs n ds = true → 0 < n ∧ ∀ x ∈ pyXs ds, x.depth ≤ n - 1
 | 0, _, p => by simp [plainXs] at p
 | n + 1, [], _ => ⟨by omega, fun x hx => by simp [pyXs] at hx⟩
 | n + 1, d :: ds, p => by
  simp only [plainXs, Bool.and_eq_true] at p
  refine ⟨by omega, fun x hx => ?_⟩
  rw [pyXs, List.mem_cons] at hx
  rcases hx with rfl | hx
  ·exact pyX_depth n d p.1
  ·exact (pyXs_depth (n + 1) ds p.2).2 x hx
end
end
section
variable {X : Cx} {pins : List (Addr × Obj)} {σ : L2.St} {H G : Hp} {s : Shared}
end
end FL
namespace FL
open PySem PySem.Spec PyProof.Rows L2
section
variable {K : PySem.W.Frag} {mg : Str → Option Value} {B : Bs} {G H : Hp} {σ : L2.St} {ρ : En} {s i j : Nat} {t0 tj : OT} {p : List Nat} {us : List OT}
end
section
variable {X : Cx} {W : WW} {io : List Nat} {e : Expr} {body : List Stmt} {pos ppos p2 p3 pc : Pos} {jc : Nat} {x : Str} {F : En → Flw} {fp : En → Res (List Nat)}
end
end FL
namespace FL
open PySem PySem.Spec PyProof.Rows L2
section
variable {X : Cx} {pins : List (Addr × Obj)} {σ : L2.St} {H G : Hp} {s : Shared}
end
end FL
namespace FL
open PySem PySem.Spec PyProof.Rows L2
section
variable {X : Cx} {W : WW} {o e : Expr} {es : List Expr} {f : En → Res D} {fs : En → Res (List D)} {T id : String} {name : Str} {apos cpos : Pos} {g : List D → Option OT}
def MtO (X : Cx) (id : String) (g : List D → Option OT) : Prop := MtR X id fun x xs H Q => ∃ G d ds c, Same G H ∧ R X.K X.mg G d x ∧ Rs X.K X.mg G ds xs ∧ g (d :: ds) = some c ∧ ∀ v G' H', Stp G H G' H' → relO X.K X.mg H G' H' c v → Q v H'
theorem spl1 (s : Nat) : ∀ (L acc : List Nat), (∀ p ∈ TL.spl [s] 0 acc L, p.length ≤ acc.length + L.length ∧ ∀ c ∈ p, c ∈ acc ∨ c ∈ L)
 | [], acc => fun p hp => by
  rw [TL.spl_nil] at hp
  rw [List.mem_singleton.mp hp]
  exact ⟨Nat.le_add_right _ _, fun c hc => .inl hc⟩
 | c :: r, acc => fun p hp => by
  by_cases e : c = s
  ·subst e
   rw [TL.spl_hit (show TL.pre [c] (c :: r) = true from TL.pre_self [c] r)] at hp
   rcases List.mem_cons.mp hp with rfl | hp
   ·exact ⟨Nat.le_add_right _ _, fun c hc => .inl hc⟩
   ·obtain ⟨h1, h2⟩ := spl1 c r [] p hp
    refine ⟨by rw [List.length_cons]; rw [List.length_nil] at h1; omega, fun d hd => ?_⟩
    rcases h2 d hd with h | h
    ·cases h
    ·exact .inr (List.mem_cons_of_mem _ h)
  ·rw [TL.spl_miss (TL.pre_of_head [] r e)] at hp
   obtain ⟨h1, h2⟩ := spl1 s r (acc ++ [c]) p hp
   refine ⟨by rw [List.length_append, List.length_singleton] at h1; rw [List.length_cons]; omega, fun d hd => ?_⟩
   rcases h2 d hd with h | h
   ·rcases List.mem_append.mp h with h | h
    ·exact .inl h
    ·rw [List.mem_singleton.mp h]; exact .inr List.mem_cons_self
   ·exact .inr (List.mem_cons_of_mem _ h)
theorem split_part {a b : Str} (hb : b.length = 1) (hk : b.cps.all (· < 256) = true) : ∀ z ∈ Txt.split a b, z.length ≤ a.length ∧ ∀ c ∈ z.cps.toList, c ∈ a.cps.toList := by
 obtain ⟨s, e⟩ : ∃ s, TL.tl b = [s] := by
  have : (TL.tl b).length = 1 := by rw [← TL.len_tl]; exact hb
  match h : TL.tl b, this with
  | [s], _ => exact ⟨s, rfl⟩
 intro z hz
 have h := TL.split_spl a b (by rw [e]; simp) (TL.kind_ok hk)
 have m : TL.tl z ∈ (Txt.split a b).map TL.tl := List.mem_map.mpr ⟨z, hz, rfl⟩
 rw [h, e] at m
 obtain ⟨h1, h2⟩ := spl1 s _ [] _ m
 rw [List.length_nil, Nat.zero_add] at h1
 refine ⟨by rw [TL.len_tl, TL.len_tl]; exact h1, fun c hc => ?_⟩
 rcases h2 c hc with h | h
 ·cases h
 ·exact h
def splO : List D → Option OT
 | [.str a, .str b] => if b.length = 1 ∧ b.cps.all (· < 256) = true ∧ a.length + 2 ≤ 16777216 then some (.lst (((Txt.split a b).map D.str).map .d)) else none
 | _ => none
theorem spl_ok : MtO X "str.split" splO := by
 rintro pins s σ H x xs v us Q I rx rs ⟨G, d, ds, c, gh, rd, rds, hg, k⟩
 unfold splO at hg
 split at hg
 ·rename_i a b h
  cases h
  split at hg
  ·rename_i hz
   obtain ⟨z1, z2, z3⟩ := hz
   cases hg
   obtain ⟨rfl, a1, a2⟩ := rd
   obtain ⟨w, rfl, q⟩ := rds.one
   obtain ⟨rfl, _, _⟩ := q
   refine mt_split pins s σ H _ _ v us Q I rx rs ⟨a, b, rfl, rfl, by rw [z1]; rfl, sz_le z3, fun p hp => ?_⟩
   have parts := split_part (a := a) z1 z2
   refine k _ _ _ (Stp.own gh hp) (relO.newL gh hp ?_ (Rs.strs _ fun z hz => ?_))
   ·rw [List.length_map]
    exact Nat.le_trans (PyProof.Rows.split_le a b) (by have := sz_le z3; omega)
   ·obtain ⟨p1, p2⟩ := parts z hz
    refine ⟨Nat.le_trans p1 a1, ?_⟩
    unfold PyData.strOk at a2 ⊢
    rw [← Array.all_toList] at a2 ⊢
    exact List.all_eq_true.mpr fun c hc => List.all_eq_true.mp a2 c (p2 c hc)
  ·cases hg
 ·cases hg
end
end FL
namespace FL
open PySem PySem.Spec PyProof.Rows L2
structure CalMkA (P : Program) (w : World) (K : PySem.W.Frag) (mg : Str → Option Value) (base : Heap) (C : Str) (k : Nat) (m : List Bool) (F : List OT → ResG) : Prop where
 ex : ∃ ca f fd ps, FnOk P w K mg base CX0 k f fd ps (spG K mg False (true :: m) F) ∧ mg C = some (.ref ca) ∧ Mk K ca f ∧ Binds K fd ps []
structure IniA (K : PySem.W.Frag) (mg : Str → Option Value) (C q : Str) (st : Stmt) (ps : List Str) : Prop where
 ex : ∃ ca f fd, Fun K "__init__" q st f fd ∧ mg C = some (.ref ca) ∧ Mk K ca f ∧ Binds K fd ps []
end FL
namespace FL
open PySem PySem.Spec PyProof.Rows L2 He
section
variable {α β γ δ : Type} {R : Option α}
end
end FL
namespace FL
open PySem PySem.Spec PyProof.Rows L2
section
variable {K : PySem.W.Frag} {mg : Str → Option Value} {B : Bs} {G H : Hp} {σ : L2.St} {ρ : En}
end
section
variable {X : Cx} {W : WW} {a b : Expr} {fa fb : En → ResX} {pos : Pos}
end
end FL
namespace FL
open PySem PySem.Spec PyProof.Rows L2
section
variable {X : Cx} {W : WW} {io : List Nat} {e o : Expr} {es : List Expr} {f : En → Res D} {fx : En → ResX} {fs : En → Res (List D)} {pos ppos pos' apos cpos : Pos} {x : Str} {T id : String} {name : Str} {g : List D → Option OT}
def extX (i : Nat) (fx : En → ResX) (ρ : En) : Flw := match ρ[i]? with
 | some (some (.lst _)) => bindX (fx ρ) fun t ρ' => match ρ'[i]? with
  | some (some (.lst ts)) => match fz t with
   | .lst ds => if ts.length + ds.length ≤ 16777216 then .nx (ρ'.set i (some (.lst (ts ++ ds.map .d)))) else .bad
   | _ => .bad
  | _ => .bad
 | _ => .bad
theorem S1.extX (i : Nat) (h : EX X W e fx) (hN : X.N[i]? = some x := by rfl) (hv : Vis X.env.scope x := by first | exact Or.inl rfl | exact Or.inr (Or.inl rfl) | exact Or.inr (Or.inr rfl)) (hd : (x == ("__debug__" : Str)) = false := by decide) (hcd : (x == ("__classdict__" : Str)) = false := by decide)
  (hs : starEach [e] X.env = (false, eval e X.env) :: starEach [] X.env := by rfl) (hline : (apos.endLine == cpos.line) = true := by rfl)
  (hbase : attributeBase (.Name x ppos) "extend" X.env (eval (.Name x ppos) X.env) = eval (.Name x ppos) X.env := by rfl)
  (hfew : ((backTo cpos (starEach [e] X.env)).all (fun x => !x.1) && (backToKw cpos (keywordEach [] X.env)).all (fun x => x.1.isSome) && decide ([e].length + ([] : List Keyword).length + (if ([] : List Keyword).isEmpty then 0 else 1) < 30)) = true := by rfl)
  (hsw : swapsWith (.Call (.Attribute (.Name x ppos) "extend" apos) [e] [] cpos) none pos.line X.env = pure false := by rfl) :
  S1 X W io (.Expr (.Call (.Attribute (.Name x ppos) "extend" apos) [e] [] cpos) pos) (extX i fx) := ⟨fun B hB =>
 PS.mono (ps_expr (pe_bm PySem.F.plainAttrs_list PySem.F.slot_list_extend PySem.F.type_list_extend mt_ext2 (pe_var (i := i) hN hv hd hcd) (pa_cons (h.run B) pa_nil hs) hbase hfew hline hs (by rfl)) hsw) fun N σ H ⟨G, ρ, r, h⟩ => by
  unfold FL.extX at h
  split at h
  ·rename_i ts0 es0
   obtain ⟨a, _, _, hv, _, ha0, _, _, _⟩ := r.lst es0
   refine ⟨.ref a, hv, tyV_lst ha0, liftX.of r h fun t ρ' v G1 H1 r1 o => ?_⟩
   obtain ⟨G2, r2, q⟩ := r1.frozen
   split at o
   ·rename_i ts es
    obtain ⟨a', vs', fs', hv', l', ha', ro', nd', back'⟩ := r2.lst es
    rw [hv] at hv'
    cases hv'
    split at o
    ·rename_i ds eq
     rw [eq] at q
     split at o
     ·rename_i hl
      obtain ⟨b, us, rfl, lb, hb, qb⟩ := R.lst q
      have hab : a ≠ b := fun z => by
       have hg : G2 a = none := by
        obtain ⟨F, f⟩ := r2.sl
        obtain ⟨v, x1, x2⟩ := f.rep i _ es
        obtain ⟨a2, _, _, x3, x4, _⟩ := x2
        rw [x3] at x1
        rw [hv] at x1
        cases x1
        exact (f.at_ i a (by rw [x4]; exact List.mem_cons_self)).2.1.no ha'
       rw [z, hb] at hg; cases hg
      refine ⟨a, b, vs', us, rfl, rfl, ha', .inl (r2.gh _ _ hb), by rw [ro'.len, qb.len]; exact sz_le hl, o _ _ _ (back' _ _ (a :: fs') ?_ nd' fun p hp => hp)⟩
      refine ⟨a, _, fs', rfl, rfl, by rw [List.length_append, List.length_map]; exact sz_le hl, upd_same, ?_⟩
      have q := ROs.append (ro'.frame (Same.refl _) (H' := upd H1 a (.lst (vs' ++ us))) fun p hp => upd_ne fun z => (List.nodup_cons.mp nd').1 (z ▸ hp)) (ROs.dds (H := upd H1 a (.lst (vs' ++ us))) qb)
      rw [List.append_nil] at q
      exact q
     ·exact o.elim
    ·exact o.elim
   ·exact o.elim
  ·exact h.elim⟩
def forX (fx : En → ResX) (g : D → En → Option En) (body : En → Flw) (ρ : En) : Flw := bindX (fx ρ) fun t ρ' => match fz t with
 | .lst xs => forL g body xs ρ'
 | _ => .bad
theorem S1.forX {tg : Expr} {body : List Stmt} {vs : List Nat} {g : D → En → Option En} {F : En → Flw} (hp : PassesOwn (model X.prog X.w) X.A X.env X.xe) (hc : X.calm = true) (hi : EX X W e fx) (hg : EG X vs tg g) (hb : SS X W io body F) (hio : ∀ i ∈ io, i ∉ vs := by decide)
  (hs : ∀ x, foldedSetIterable e X.env x = pure x := by intro _; rfl) : S1 X W io (.For tg e body [] pos) (forX fx g F) := ⟨fun B hB => PS.mono (ps_for hp hc (pi_list (hi.run B)) (hg.run B (fun q hq => hio q.1 (by rw [← hB]; exact List.mem_map_of_mem hq))) hb.any hs) fun N σ H ⟨G, ρ, r, h⟩ =>
 liftX.of r h fun t ρ0 v G0 H1 r0 o => by
  obtain ⟨G1, r1, q1⟩ := r0.frozen
  split at o
  ·rename_i ds eq
   rw [eq] at q1
   obtain ⟨p, ws, rfl, lb, e1, qb⟩ := R.lst q1
   have walks := walks_list (K := X.K) (mg := X.mg) e1 qb
   refine ⟨p, rfl, ⟨ws, SqL.of (r1.gh _ _ e1)⟩, ?_⟩
   refine ⟨fun i m σ H => m = ds.length - i ∧ i ≤ ds.length ∧ ∃ G ρ, Rep X.K X.mg B G H σ ρ ∧ Same G1 G ∧ Out X W B N (forL g F (ds.drop i) ρ), ⟨ds.length, by omega, Nat.zero_le _, G1, ρ0, r1, Same.refl _, o⟩, ?_⟩
   rintro i m σ2 H2 ⟨rfl, hi, G2, ρ2, r2, g12, o2⟩
   have og : ∀ p, B.O p ≠ none → KG G1 B.G0 B.O p := r1.g.og
   by_cases hlt : i < ds.length
   ·obtain ⟨go, yl⟩ := (walks i G2 H2 g12 r2.gh).2 ds[i] (List.getElem?_eq_getElem hlt)
    refine .inr ⟨go, fun σ' H' => i + 1 ≤ ds.length ∧ ∃ G ρ, Rep X.K X.mg B G H' σ' ρ ∧ Same G1 G ∧ Out X W B N (forL g F (ds.drop (i + 1)) ρ), fun σ' H' n => ⟨ds.length - (i + 1), by omega, rfl, n⟩, fun x H' y => ?_⟩
    obtain ⟨G3, s3, rx⟩ := yl x H' y
    rw [List.drop_eq_getElem_cons hlt] at o2
    unfold forL at o2
    cases eg : g ds[i] ρ2 with
    | none => rw [eg] at o2; exact o2.elim
    | some ρ3 =>
     rw [eg] at o2
     dsimp only at o2
     have r3 := r2.step s3
     have g13 := g12.trans s3.gg
     refine ⟨G3, ρ2, ds[i], ρ3, r3, rx, eg, fun σ' r' _ => ⟨⟨B.O, G1, B.io⟩, hB, G3, ρ3, r'.unbase g13 (fun p hp => (r3.g.og p hp).trans (og p hp).symm), ?_⟩⟩
     cases ef : F ρ3 with
     | nx ρ4 =>
      rw [ef] at o2
      exact fun σ G H r => ⟨hlt, G, ρ4, r.base r1.g.g0 og, r.g.g0, o2⟩
     | ct ρ4 =>
      rw [ef] at o2
      exact fun σ G H r => ⟨hlt, G, ρ4, r.base r1.g.g0 og, r.g.g0, o2⟩
     | bk ρ4 =>
      rw [ef] at o2
      exact fun σ G H r => o2 σ G H (r.base r1.g.g0 og)
     | rt t ρ4 =>
      rw [ef] at o2
      exact fun v σ G H r => o2 v σ G H (r.base r1.g.g0 og)
     | ex c ρ4 =>
      rw [ef] at o2
      exact ⟨o2.1, fun σ G H cls dd r => o2.2 σ G H cls dd (r.base r1.g.g0 og)⟩
     | bad => rw [ef] at o2; exact o2.elim
   ·rw [List.drop_of_length_le (by omega)] at o2
    exact .inl ⟨(walks i G2 H2 g12 r2.gh).1 (by omega), o2 _ _ _ r2⟩
  ·exact o.elim⟩
def mtoX (T : String) (g : List D → Option OT) (fx : En → ResX) (fs : En → Res (List D)) (ρ : En) : ResX := match fx ρ with
 | .ok t ρ' => if tyD T (fz t) = true then match fs ρ' with
  | .ok ds => match g (fz t :: ds) with
   | some c => .ok c ρ'
   | none => .bad
  | .ex c => .ex c ρ'
  | .bad => .bad
  else .bad
 | .ex c ρ' => .ex c ρ'
 | .bad => .bad
theorem EX.methD (hm : MtO X id g) (pa : PlainAttrs T) (slot : Slot T name id) (hty : typeOf (.builtin id) = pure (.type "method_descriptor")) (ho : EX X W o fx) (ha : EA X W (e :: es) fs)
  (hbase : attributeBase o name X.env (eval o X.env) = eval o X.env := by rfl)
  (hfew : ((backTo cpos (starEach (e :: es) X.env)).all (fun y => !y.1) && (backToKw cpos (keywordEach [] X.env)).all (fun y => y.1.isSome) && decide ((e :: es).length + ([] : List Keyword).length + (if ([] : List Keyword).isEmpty then 0 else 1) < 30)) = true := by rfl)
  (hline : (apos.endLine == cpos.line) = true := by rfl) (hs : starEach (e :: es) X.env = (false, eval e X.env) :: starEach es X.env := by rfl) (hp : (backTo cpos (starEach es X.env)).any (·.1) = false := by rfl) :
  EX X W (.Call (.Attribute o name apos) (e :: es) [] cpos) (mtoX T g fx fs) := ⟨fun B => PE.mono (pe_bm pa slot hty hm (ho.run B) (ha.run B) hbase hfew hline hs hp) fun σ H Q ⟨G, ρ, r, h⟩ => ⟨G, ρ, r, by
 unfold mtoX at h
 cases e1 : fx ρ with
 | bad => rw [e1] at h; exact h.elim
 | ex c ρ1 => rw [e1] at h; exact h
 | ok t ρ1 =>
  rw [e1] at h
  intro v G0 H1 r0
  obtain ⟨G1, r1, q1⟩ := r0.frozen
  (try dsimp only at h)
  split at h
  ·rename_i ht
   refine ⟨tyD_ok r1.gh ht q1, G1, ρ1, r1, ?_⟩
   cases e2 : fs ρ1 with
   | bad => rw [e2] at h; exact h.elim
   | ex c => rw [e2] at h; exact ⟨h.1, fun G' H' cls dd s q => h.2 G' H' cls dd (r1.step s) q⟩
   | ok ds =>
    rw [e2] at h
    (try dsimp only at h)
    intro vs G2 H2 s2 q2
    cases eg : g (FL.fz t :: ds) with
    | none => rw [eg] at h; exact h.elim
    | some c =>
     rw [eg] at h
     refine ⟨G2, FL.fz t, ds, c, s2.gh, R.mono s2.gg q1, q2, eg, fun w G' H' s3 q3 => ?_⟩
     obtain ⟨fp, a1, a2, a3⟩ := q3
     exact h w G' H' ((r1.step s2).fresh s3 a1 a2 a3)
  ·exact h.elim⟩⟩
def pickO (fo : En → Res OT) (fi : En → Res D) (ρ : En) : Res OT := (fo ρ).bind fun t => (fi ρ).bind fun k => match t, k with
 | .lst ts, .int k => match L2.atI ts k with
  | some u => .ok u
  | none => .bad
 | _, _ => .bad
theorem EO.pick {a b : Expr} {fo : En → Res OT} {fi : En → Res D} (ha : EO X W a fo) (hi : EF X W b fi) (hs : PlainIx b := by intro _ _; rfl) : EO X W (.Subscript a b pos) (pickO fo fi) := ⟨fun B => PE.mono (pe_ix ix_list (ha.run B) (hi.run B) hs) fun σ H Q ⟨G, ρ, r, h⟩ => ⟨G, ρ, r, by
 unfold pickO at h
 cases e1 : fo ρ with
 | bad => rw [e1] at h; exact h.elim
 | ex c => rw [e1] at h; exact h
 | ok t =>
  rw [e1, Res.bind_ok] at h
  intro v G1 H1 s1 ⟨fp, ro, nd, fr⟩
  refine ⟨G1, ρ, r.step s1, ?_⟩
  cases e2 : fi ρ with
  | bad => rw [e2] at h; exact h.elim
  | ex c => rw [e2] at h; exact ⟨h.1, fun G' H' cls dd s q => h.2 G' H' cls dd (s1.trans s) q⟩
  | ok k =>
   rw [e2, Res.bind_ok] at h
   intro y G2 H2 s2 q2
   split at h
   ·rename_i ts k
    obtain ⟨a, vs, fs, rfl, rfl, l, ha, ro⟩ := ro
    cases q2
    split at h
    ·rename_i u ek
     obtain ⟨j, ej, eu⟩ := L2at ek
     obtain ⟨w, f1, fj, f2, ev, efs, rj, _⟩ := ro.at eu
     have lv := rj.live
     have sub : ∀ p ∈ fj, p ∈ a :: fs := fun p hp => by rw [efs]; simp [hp]
     refine ⟨a, vs, k, w, rfl, rfl, SqL.of (s2.hh _ _ ha), ?_, h w G2 H2 (s1.trans s2) ⟨fj, rj.frame s2.gg fun p hp => same_at s2.hh (lv p hp), ?_, fun p hp => ⟨(fr p (sub p hp)).1, (s2.old p (lv p hp)).ng (fr p (sub p hp)).2 (same_at s2.hh (lv p hp))⟩⟩⟩
     ·unfold L2.atI
      rw [ro.len, ej]
      exact ev
     ·rw [efs] at nd
      exact (List.nodup_append.mp (List.nodup_append.mp (List.nodup_cons.mp nd).2).2.1).1
    ·exact h.elim
   ·exact h.elim⟩⟩
end
end FL
namespace FL
open PySem PySem.Spec PyProof.Rows L2
section
variable {X : Cx}
end
end FL
namespace FL
open PySem PySem.Spec PyProof.Rows L2
def tI (ns : List Int) : D := .tup (ns.map .int)
def lB (bs : List Bool) : D := .lst (bs.map .bl)
@[simp] theorem bls_map (bs : List Bool) : bls (bs.map .bl) = some bs := by
 induction bs with
 | nil => rfl
 | cons b bs ih => rw [List.map_cons, bls, ih]; rfl
@[simp] theorem ints_map (bs : List Int) : intsOf (bs.map .int) = some bs := by
 induction bs with
 | nil => rfl
 | cons b bs ih => rw [List.map_cons, intsOf, ih]; rfl
@[simp] theorem strs_map (bs : List Str) : strsOf (bs.map .str) = some bs := by
 induction bs with
 | nil => rfl
 | cons b bs ih => rw [List.map_cons, strsOf, ih]; rfl
@[simp] theorem fzs_d (ds : List D) : fzs (ds.map .d) = ds := by
 induction ds with
 | nil => rfl
 | cons b bs ih => rw [List.map_cons, fzs, ih]; rfl
theorem fz_d (d : D) : fz (.d d) = d := rfl
theorem fz_lst (ts : List OT) : fz (.lst ts) = .lst (fzs ts) := rfl
@[simp] theorem fzs_map {α : Type} (f : α → D) (l : List α) : fzs (l.map fun a => .d (f a)) = l.map f := by
 rw [← fzs_d (l.map f), List.map_map]; rfl
theorem atI_in {α : Type} {xs : List α} {i : Int} {x : α} (h0 : 0 ≤ i) (h : xs[i.toNat]? = some x) : L2.atI xs i = some x := by
 unfold L2.atI ixN
 have hl := (List.getElem?_eq_some_iff.mp h).1
 rw [if_pos h0, if_pos (by omega)]
 exact h
section
variable {ρ : En} {f h fa fb fc : En → Res D} {fs : En → Res (List D)} {g g' : D → D → Option D} {x y : D}
@[simp] theorem ev_c (d : D) : c d ρ = .ok d := rfl
@[simp] theorem ev_v0 : v 0 (some (.d x) :: ρ) = .ok x := rfl
@[simp] theorem ev_v1 {a : Option OT} : v 1 (a :: some (.d x) :: ρ) = .ok x := rfl
@[simp] theorem ev_v2 {a b : Option OT} : v 2 (a :: b :: some (.d x) :: ρ) = .ok x := rfl
@[simp] theorem ev_v3 {a b c : Option OT} : v 3 (a :: b :: c :: some (.d x) :: ρ) = .ok x := rfl
@[simp] theorem ev_v4 {a b c d : Option OT} : v 4 (a :: b :: c :: d :: some (.d x) :: ρ) = .ok x := rfl
@[simp] theorem ev_v5 {a b c d e : Option OT} : v 5 (a :: b :: c :: d :: e :: some (.d x) :: ρ) = .ok x := rfl
theorem ev_vS {a : Option OT} (i : Nat) : v (i + 1) (a :: ρ) = v i ρ := rfl
@[simp] theorem ev_v6 {a b c d e a' : Option OT} : v 6 (a :: b :: c :: d :: e :: a' :: some (.d x) :: ρ) = .ok x := rfl
@[simp] theorem ev_v7 {a b c d e a' b' : Option OT} : v 7 (a :: b :: c :: d :: e :: a' :: b' :: some (.d x) :: ρ) = .ok x := rfl
@[simp] theorem ev_v8 {a b c d e a' b' c' : Option OT} : v 8 (a :: b :: c :: d :: e :: a' :: b' :: c' :: some (.d x) :: ρ) = .ok x := rfl
@[simp] theorem ev_v9 {a b c d e a' b' c' d' : Option OT} : v 9 (a :: b :: c :: d :: e :: a' :: b' :: c' :: d' :: some (.d x) :: ρ) = .ok x := rfl
@[simp] theorem ev_op2 : op2 g f h ρ = (f ρ).bind fun x => (h ρ).bind fun y => ofO (g x y) := rfl
@[simp] theorem ev_op1 {g : D → Option D} : op1 g f ρ = (f ρ).bind fun x => ofO (g x) := rfl
@[simp] theorem ev_cal {α : Type} {g : List D → Option α} : cal g fs ρ = (fs ρ).bind fun xs => ofO (g xs) := rfl
@[simp] theorem ev_nil : nilA ρ = .ok [] := rfl
@[simp] theorem ev_cons : consA f fs ρ = (f ρ).bind fun d => (fs ρ).bind fun ds => .ok (d :: ds) := rfl
@[simp] theorem ev_tst : tst f ρ = (f ρ).bind asB := rfl
@[simp] theorem ev_asB (b : Bool) : asB (.bl b) = .ok b := rfl
@[simp] theorem ev_fzE {f : En → Res OT} : fzE f ρ = (f ρ).bind fun t => .ok (fz t) := rfl
@[simp] theorem ev_ofE : ofE f ρ = (f ρ).bind fun d => .ok (.d d) := rfl
@[simp] theorem ev_call {F : List D → Res OT} : call F fs ρ = (fs ρ).bind F := rfl
@[simp] theorem ev_yes : yes ρ = .ok true := rfl
@[simp] theorem ev_andT {s t : En → Res Bool} : andT s t ρ = (s ρ).bind fun b => if b = true then t ρ else .ok false := rfl
@[simp] theorem ev_orT {s t : En → Res Bool} : orT s t ρ = (s ρ).bind fun b => if b = true then .ok true else t ρ := rfl
@[simp] theorem ev_notT {t : En → Res Bool} : notT t ρ = (t ρ).bind fun b => .ok (!b) := rfl
@[simp] theorem ev_andD : andD fa fb ρ = (fa ρ).bind fun d => (asB d).bind fun b => if b = true then fb ρ else .ok (.bl false) := rfl
@[simp] theorem ev_orD : orD fa fb ρ = (fa ρ).bind fun d => (asB d).bind fun b => if b = true then .ok (.bl true) else fb ρ := rfl
@[simp] theorem ev_notD : notD fa ρ = (fa ρ).bind fun d => (asB d).bind fun b => .ok (.bl (!b)) := rfl
@[simp] theorem ev_it1 {g : D → Option (List D)} : it1 g f ρ = (f ρ).bind fun d => ofO (g d) := rfl
@[simp] theorem ev_itA {g : List D → Option (List D)} : itA g fs ρ = (fs ρ).bind fun d => ofO (g d) := rfl
@[simp] theorem ev_noP : noP ρ = .ok none := rfl
@[simp] theorem ev_part : part f ρ = (f ρ).bind fun d => (asI d).bind fun i => .ok (some i) := rfl
@[simp] theorem ev_asI (i : Int) : asI (.int i) = .ok i := rfl
@[simp] theorem ev_sli {fl fh : En → Res (Option Int)} : sli fa fl fh ρ = (fa ρ).bind fun d => (fl ρ).bind fun lo => (fh ρ).bind fun hi => ofO (slD d lo hi) := rfl
theorem ev_ch (h1 : fa ρ = .ok x) (h2 : fb ρ = .ok y) {b : Bool} (h3 : g x y = some (.bl b)) {z : D} (h4 : fc ρ = .ok z) {b' : Bool} (h5 : g' y z = some (.bl b')) : chD g g' fa fb fc ρ = .ok (.bl (b && b')) := by
 unfold chD
 rw [h1, Res.bind_ok, h2, Res.bind_ok, h3, ofO_some, Res.bind_ok, ev_asB, Res.bind_ok]
 cases b
 ·rfl
 ·rw [if_pos rfl, h4, Res.bind_ok, h5]; rfl
@[simp] theorem ev_bind_if {α β : Type} {p : Prop} [Decidable p] {r s : Res α} {k : α → Res β} : (if p then r else s).bind k = if p then r.bind k else s.bind k := by split <;> rfl
end
section
variable {i j : Int} {xs ys : List D} {z w : Str} {b : Bool}
@[simp] theorem ev_add : addD (.int i) (.int j) = some (.int (i + j)) := rfl
@[simp] theorem ev_sub : subD (.int i) (.int j) = some (.int (i - j)) := rfl
@[simp] theorem ev_neg : negD (.int i) = some (.int (-i)) := rfl
theorem ev_mul (h : (-(2 ^ 64) < i ∧ i < 2 ^ 64) ∨ (-(2 ^ 64) < j ∧ j < 2 ^ 64)) : mulD (.int i) (.int j) = some (.int (i * j)) := if_pos h
theorem ev_mod (h : 0 < j) : modD (.int i) (.int j) = some (.int (i % j)) := if_pos h
theorem ev_div (h : 0 < j ∧ j < 1073741824) : fdivD (.int i) (.int j) = some (.int (i / j)) := if_pos h
@[simp] theorem ev_lt : ltD (.int i) (.int j) = some (.bl (decide (i < j))) := rfl
@[simp] theorem ev_le : leD (.int i) (.int j) = some (.bl (decide (i ≤ j))) := rfl
@[simp] theorem ev_gt : gtD (.int i) (.int j) = some (.bl (decide (j < i))) := rfl
@[simp] theorem ev_ge : geD (.int i) (.int j) = some (.bl (decide (j ≤ i))) := rfl
@[simp] theorem ev_eqI : eqD (.int i) (.int j) = some (.bl (i == j)) := rfl
@[simp] theorem ev_neI : neD (.int i) (.int j) = some (.bl (!(i == j))) := rfl
@[simp] theorem ev_lenL : lenL [.lst xs] = some (.int xs.length) := rfl
@[simp] theorem ev_lenT : lenL [.tup xs] = some (.int xs.length) := rfl
@[simp] theorem ev_lenC {ns : List Int} : lenL [.scr ns] = some (.int ns.length) := rfl
@[simp] theorem ev_lenS : lenL [.str z] = some (.int z.length) := rfl
@[simp] theorem ev_all {bs : List Bool} : allD [.lst (bs.map .bl)] = some (.bl (bs.all id)) := by unfold allD; dsimp only; rw [bls_map]; rfl
@[simp] theorem ev_any {bs : List Bool} : anyD [.lst (bs.map .bl)] = some (.bl (bs.any id)) := by unfold anyD; dsimp only; rw [bls_map]; rfl
@[simp] theorem ev_sum {bs : List Int} : sumD [.lst (bs.map .int)] = some (.int bs.sum) := by unfold sumD; dsimp only; rw [ints_map]; rfl
theorem ev_all' {α : Type} {l : List α} {f : α → Bool} : allD [.lst (l.map fun a => .bl (f a))] = some (.bl (l.all f)) := by
 have h := ev_all (bs := l.map f)
 rw [List.map_map] at h
 rw [show (l.map fun a => D.bl (f a)) = l.map (D.bl ∘ f) from rfl, h, List.all_map]; rfl
@[simp] theorem ev_itL : itQ (.lst xs) = some xs := rfl
@[simp] theorem ev_itT : itQ (.tup xs) = some xs := rfl
theorem ev_ixL {x : D} (h0 : 0 ≤ i) (h : xs[i.toNat]? = some x) : ixD (.lst xs) (.int i) = some x := atI_in h0 h
@[simp] theorem ev_tupL : tupleD [.lst xs] = some (.tup xs) := rfl
@[simp] theorem ev_tupT : tupleD [.tup xs] = some (.tup xs) := rfl
@[simp] theorem ev_listL : listO [.lst xs] = some (.lst (xs.map .d)) := rfl
@[simp] theorem ev_listT : listO [.tup xs] = some (.lst (xs.map .d)) := rfl
end
section
variable {ρ ρ' ρ1 : En} {f g F G : En → Flw} {r : Flw} {e : En → Res D} {eo : En → Res OT} {t : En → Res Bool} {i a n : Nat} {d : D} {o : OT} {ds : List D} {b : Bool}
theorem seq_nx (h1 : f ρ = .nx ρ') (h2 : g ρ' = r) : seqF f g ρ = r := by unfold seqF; rw [h1]; exact h2
theorem seq_rt (h1 : f ρ = .rt o ρ') : seqF f g ρ = .rt o ρ' := by unfold seqF; rw [h1]
theorem if_t (h : t ρ = .ok true) (k : F ρ = r) : ifF t F G ρ = r := by unfold ifF; rw [h]; exact k
theorem if_f (h : t ρ = .ok false) (k : G ρ = r) : ifF t F G ρ = r := by unfold ifF; rw [h]; exact k
theorem asg_ok (h : e ρ = .ok d) : asg i e ρ = .nx (ρ.set i (some (.d d))) := by unfold asg; rw [h]; rfl
theorem asgO_ok (h : eo ρ = .ok o) : asgO i eo ρ = .nx (ρ.set i (some o)) := by unfold asgO; rw [h]; rfl
theorem ret_ok (h : e ρ = .ok d) : ret e ρ = .rt (.d d) ρ := by unfold ret; rw [h]; rfl
theorem retO_ok (h : eo ρ = .ok o) : retO eo ρ = .rt o ρ := by unfold retO; rw [h]; rfl
theorem drp_ok (h : e ρ = .ok d) : drp e ρ = .nx ρ := by unfold drp; rw [h]; rfl
theorem for_ok {fi : En → Res (List D)} {gg : D → En → Option En} {xs : List D} (h : fi ρ = .ok xs) : forF fi gg F ρ = forL gg F xs ρ := by unfold forF; rw [h]; rfl
theorem lcD_ok {vs : List Nat} {fi : En → Res (List D)} {gg : D → En → Option En} {fe : En → Res OT} {xs : List D} {ts : List OT} (h : fi ρ = .ok xs) (h2 : lcL gg t fe (wipeE ρ vs) xs = some ts) : lcD vs fi gg t fe ρ = .ok (.lst ts) := by
 unfold lcD; rw [h, Res.bind_ok, h2]; rfl
theorem putS_lst {s : Nat} {fi : En → Res D} {ts : List OT} {k : Int} {j : Nat} (h : ρ[s]? = some (some (.lst ts))) (hf : e ρ = .ok d) (hi : fi ρ = .ok (.int k)) (hk : ixN ts.length k = some j) :
  putS s fi e ρ = .nx (ρ.set s (some (.lst (ts.set j (.d d))))) := by
 unfold putS; rw [h]; dsimp only; rw [hf, bindF_ok, hi, bindF_ok]; dsimp only; rw [hk]
theorem app_ok {s : Nat} {ts : List OT} (h : ρ[s]? = some (some (.lst ts))) (hf : e ρ = .ok d) (hl : ts.length < 16777216) : app s e ρ = .nx (ρ.set s (some (.lst (ts ++ [.d d])))) := by
 unfold app; rw [h]; dsimp only; rw [hf, bindF_ok, if_pos hl]
theorem ext_ok {s : Nat} {ts : List OT} {ds : List D} (h : ρ[s]? = some (some (.lst ts))) (hf : e ρ = .ok (.lst ds)) (hl : ts.length + ds.length ≤ 16777216) : ext s e ρ = .nx (ρ.set s (some (.lst (ts ++ ds.map .d)))) := by
 unfold ext; rw [h]; dsimp only; rw [hf, bindF_ok]; dsimp only; rw [if_pos hl]
theorem retM_ok {s : Nat} (h : ρ[s]? = some (some o)) : retM s ρ = .rt o (ρ.set s none) := by unfold retM; rw [h]
theorem asgG_ok {gg : D → En → Option En} (h : e ρ = .ok d) (h2 : gg d ρ = some ρ1) : asgG gg e ρ = .nx ρ1 := by unfold asgG; rw [h, bindF_ok, h2]
theorem ixN_in {n : Nat} {i : Int} (h0 : 0 ≤ i) (h1 : i < n) : ixN n i = some i.toNat := by unfold ixN; rw [if_pos h0, if_pos h1]
theorem op2E {g : D → D → Option D} {fa fb : En → Res D} {x y z : D} (ha : fa ρ = .ok x) (hb : fb ρ = .ok y) (hg : g x y = some z) : op2 g fa fb ρ = .ok z := by
 simp only [ev_op2, ha, hb, Res.bind_ok, hg, ofO_some]
theorem fzEE {fo : En → Res OT} (h : fo ρ = .ok o) : fzE fo ρ = .ok (fz o) := by simp only [ev_fzE, h, Res.bind_ok]
theorem tstE {fa : En → Res D} (h : fa ρ = .ok (.bl b)) : tst fa ρ = .ok b := by simp only [ev_tst, h, Res.bind_ok, ev_asB]
end
end FL
namespace FL
open PySem PySem.Spec PyProof.Rows L2
mutual
theorem eqv_refl : ∀ (n : Nat) (d : D), plain n d = true → eqv d d = true
 | _, .non, _ => rfl
 | _, .bl b, _ => by simp [eqv]
 | _, .int i, _ => by simp [eqv]
 | _, .str z, _ => by simp [eqv]
 | n, .lst xs, h => by rw [eqv]; exact eqvs_refl n xs (by simpa [plain] using h)
 | n, .tup xs, h => by rw [eqv]; exact eqvs_refl n xs (by simpa [plain] using h)
 | _, .dK _ _, h => by simp [plain] at h
 | _, .dT _ _, h => by simp [plain] at h
 | _, .ins _ _ _, h => by simp [plain] at h
 | _, .scr _, h => by simp [plain] at h
theorem eqvs_refl : ∀ (n : Nat) (ds : List D), plains n ds = true → eqvs ds ds = true
 | 0, _, h => by simp [plains] at h
 | _ + 1, [], _ => rfl
 | n + 1, x :: xs, h => by
  simp only [plains, Bool.and_eq_true] at h
  rw [eqvs, eqv_refl n x h.1, eqvs_refl (n + 1) xs h.2]; rfl
end
theorem plains_all {n : Nat} : ∀ {ds : List D}, (∀ d ∈ ds, plain n d = true) → plains (n + 1) ds = true
 | [], _ => rfl
 | d :: ds, h => by rw [plains, h d List.mem_cons_self, plains_all fun x hx => h x (List.mem_cons_of_mem _ hx)]; rfl
section
variable {ρ ρ' : En} {F g : En → Flw} {x : Exn} {a n : Nat} {ds : List D} {e : En → Res D} {eo : En → Res OT} {o : OT} {r : Flw}
theorem seq_ex (h : F ρ = .ex x ρ') : seqF F g ρ = .ex x ρ' := by unfold seqF; rw [h]
theorem drp_ex (h : e ρ = .ex x) : drp e ρ = .ex x ρ := by unfold drp; rw [h]; rfl
theorem asg_ex {i : Nat} (h : e ρ = .ex x) : asg i e ρ = .ex x ρ := by unfold asg; rw [h]; rfl
theorem consE {fa : En → Res D} {fs : En → Res (List D)} {d : D} {zs : List D} (h : fa ρ = .ok d) (h2 : fs ρ = .ok zs) : consA fa fs ρ = .ok (d :: zs) := by rw [ev_cons, h, Res.bind_ok, h2]; rfl
end
section
variable {s t : En → Res Bool} {fa fb : En → Res D} {ρ : En} {b : Bool} {r : Res Bool} {q : Res D}
theorem orT_f (h : s ρ = .ok false) (k : t ρ = r) : orT s t ρ = r := by rw [ev_orT, h]; exact k
theorem orT_t (h : s ρ = .ok true) : orT s t ρ = .ok true := by rw [ev_orT, h]; rfl
theorem andT_t (h : s ρ = .ok true) (k : t ρ = r) : andT s t ρ = r := by rw [ev_andT, h]; exact k
theorem andT_f (h : s ρ = .ok false) : andT s t ρ = .ok false := by rw [ev_andT, h]; rfl
theorem notT_ok (h : t ρ = .ok b) : notT t ρ = .ok (!b) := by rw [ev_notT, h]; rfl
theorem andD_t (h : fa ρ = .ok (.bl true)) (k : fb ρ = q) : andD fa fb ρ = q := by rw [ev_andD, h]; exact k
theorem andD_f (h : fa ρ = .ok (.bl false)) : andD fa fb ρ = .ok (.bl false) := by rw [ev_andD, h]; rfl
theorem orD_f (h : fa ρ = .ok (.bl false)) (k : fb ρ = q) : orD fa fb ρ = q := by rw [ev_orD, h]; exact k
theorem orD_t (h : fa ρ = .ok (.bl true)) : orD fa fb ρ = .ok (.bl true) := by rw [ev_orD, h]; rfl
end
section
variable {fa fb fc : En → Res D} {ρ : En} {x y z q : D} {o : OT}
theorem it1E {g : D → Option (List D)} {xs : List D} (ha : fa ρ = .ok x) (hg : g x = some xs) : it1 g fa ρ = .ok xs := by
 simp only [ev_it1, ha, Res.bind_ok, hg, ofO_some]
theorem op1E {g : D → Option D} (ha : fa ρ = .ok x) (hg : g x = some z) : op1 g fa ρ = .ok z := by
 simp only [ev_op1, ha, Res.bind_ok, hg, ofO_some]
end
theorem bor_ok {f : En → Res D} {ρ : En} {d : D} (h : f (frz ρ) = .ok d) (hf : flat d = true := by rfl) : bor f ρ = .ok d := by
 unfold bor
 rw [h]
 dsimp only
 rw [if_pos (by rw [hf, Bool.true_or])]
theorem borT_ok {f : En → Res Bool} {ρ : En} {b : Bool} (h : f (frz ρ) = .ok b) : borT f ρ = .ok b := by
 unfold borT
 rw [h]
theorem borO_ok {f : En → Res OT} {ρ : En} {t : OT} (h : f (frz ρ) = .ok t) (hf : flatT t = true) : borO f ρ = .ok t := by
 unfold borO
 rw [h]
 dsimp only
 rw [if_pos (by rw [hf, Bool.true_or])]
end FL
namespace FL
open PySem PySem.Spec PyProof.Rows L2
section
variable {α β γ δ ε σ R : Type}
abbrev eI : Int → D := D.int
abbrev eB : Bool → D := D.bl
abbrev eS : Str → D := D.str
def eN (_ : Unit) : D := .non
def eC (ns : List Int) : D := .scr ns
def eL (e : α → D) (l : List α) : D := .lst (l.map e)
def eV (e : α → D) (l : List α) : D := .tup (l.map e)
def eT2 (e1 : α → D) (e2 : β → D) (p : α × β) : D := .tup [e1 p.1, e2 p.2]
def eT3 (e1 : α → D) (e2 : β → D) (e3 : γ → D) (p : α × β × γ) : D := .tup [e1 p.1, e2 p.2.1, e3 p.2.2]
def eO (e : α → D) : Option α → D
 | none => .non
 | some a => e a
def eKI (e : α → D) (l : List (Int × α)) : D := .dK (l.map fun p => .inl p.1) (l.map fun p => e p.2)
def eKS (e : α → D) (l : List (Str × α)) : D := .dK (l.map fun p => .inr p.1) (l.map fun p => e p.2)
def oD (e : α → D) (a : α) : OT := .d (e a)
def oL (e : α → OT) (l : List α) : OT := .lst (l.map e)
def oO (e : α → OT) : Option α → OT
 | none => .d .non
 | some a => e a
def oKI (e : α → OT) (l : List (Int × α)) : OT := .dK (l.map fun p => .inl p.1) (l.map fun p => e p.2)
def oKS (e : α → OT) (l : List (Str × α)) : OT := .dK (l.map fun p => .inr p.1) (l.map fun p => e p.2)
theorem fzs_mp {eo : α → OT} {e : α → D} (h : ∀ a, fz (eo a) = e a) (l : List α) : fzs (l.map eo) = l.map e := by
 rw [fzs_eq, List.map_map]; exact List.map_congr_left fun a _ => h a
theorem zD {e : α → D} (a : α) : fz (oD e a) = e a := rfl
theorem zL {eo : α → OT} {e : α → D} (h : ∀ a, fz (eo a) = e a) (l : List α) : fz (oL eo l) = eL e l := by
 unfold oL eL; rw [fz_lst, fzs_mp h]
theorem zO {eo : α → OT} {e : α → D} (h : ∀ a, fz (eo a) = e a) (l : Option α) : fz (oO eo l) = eO e l := by
 cases l with
 | none => rfl
 | some a => exact h a
theorem zKI {eo : α → OT} {e : α → D} (h : ∀ a, fz (eo a) = e a) (l : List (Int × α)) : fz (oKI eo l) = eKI e l := by
 unfold oKI eKI; rw [fz, fzs_mp (e := fun p : Int × α => e p.2) fun p => h p.2]
theorem zKS {eo : α → OT} {e : α → D} (h : ∀ a, fz (eo a) = e a) (l : List (Str × α)) : fz (oKS eo l) = eKS e l := by
 unfold oKS eKS; rw [fz, fzs_mp (e := fun p : Str × α => e p.2) fun p => h p.2]
theorem fr0 : frz [] = [] := rfl
theorem frN {ρ ρ' : En} (h : frz ρ = ρ') : frz (none :: ρ) = none :: ρ' := by rw [← h]; rfl
theorem frD {ρ ρ' : En} {d : D} (h : frz ρ = ρ') : frz (some (.d d) :: ρ) = some (.d d) :: ρ' := by rw [← h]; rfl
theorem frO {ρ ρ' : En} {o : OT} {d : D} (z : fz o = d) (h : frz ρ = ρ') : frz (some o :: ρ) = some (.d d) :: ρ' := by rw [← h, ← z]; rfl
def nb (m : Res α) (k : α → Res β) : Res β := match m with
 | .ok a => k a
 | _ => .bad
@[simp] theorem nb_ok (a : α) (k : α → Res β) : nb (.ok a) k = k a := rfl
@[simp] theorem nb_bad (k : α → Res β) : nb .bad k = .bad := rfl
@[simp] theorem nb_ex (x : Exn) (k : α → Res β) : nb (.ex x) k = .bad := rfl
theorem nb_eq_ok {m : Res α} {k : α → Res β} {b : β} (h : nb m k = .ok b) : ∃ a, m = .ok a ∧ k a = .ok b := by
 cases m with
 | ok a => exact ⟨a, rfl, h⟩
 | ex x => cases h
 | bad => cases h
def Sm (w : Prop) (e : α → β) (m : Res α) (r : Res β) : Prop := match m with
 | .ok a => r = .ok (e a)
 | .ex x => w → r = .ex x
 | .bad => True
def Sz (w : Prop) (e : α → D) (m : Res α) (r : Res OT) : Prop := match m with
 | .ok a => ∃ o, r = .ok o ∧ fz o = e a
 | .ex x => w → r = .ex x
 | .bad => True
theorem Sm.p {w : Prop} {e : α → β} {a : α} {r : Res β} (h : r = .ok (e a)) : Sm w e (.ok a) r := h
theorem Sm.nb {w : Prop} {e1 : α → β} {e : γ → δ} {m : Res α} {K : α → Res γ} {r1 : Res β} {r : Res δ} (h : Sm False e1 m r1) (k : ∀ a, r1 = .ok (e1 a) → Sm w e (K a) r) : Sm w e (nb m K) r := by
 cases m with
 | ok a => exact k a h
 | ex x => exact trivial
 | bad => exact trivial
theorem Sm.weak {w : Prop} {e : α → β} {m : Res α} {r : Res β} (h : Sm w e m r) : Sm False e m r := by
 cases m with
 | ok a => exact h
 | ex x => exact fun z => z.elim
 | bad => exact trivial
theorem Sz.weak {w : Prop} {e : α → D} {m : Res α} {r : Res OT} (h : Sz w e m r) : Sz False e m r := by
 cases m with
 | ok a => exact h
 | ex x => exact fun z => z.elim
 | bad => exact trivial
theorem Sm.z {w : Prop} {eo : α → OT} {e : α → D} {m : Res α} {r : Res OT} (z : ∀ a, fz (eo a) = e a) (h : Sm w eo m r) : Sz w e m r := by
 cases m with
 | ok a => exact ⟨_, h, z a⟩
 | ex x => exact h
 | bad => exact trivial
theorem Sz.fzE {w : Prop} {e : α → D} {m : Res α} {f : En → Res OT} {ρ : En} (h : Sz w e m (f ρ)) : Sm w e m (FL.fzE f ρ) := by
 cases m with
 | ok a => obtain ⟨o, h1, h2⟩ := h; exact (fzEE h1).trans (by rw [h2])
 | ex x => exact fun z => by unfold FL.fzE; rw [h z]; rfl
 | bad => exact trivial
theorem Sm.fzE {w : Prop} {eo : α → OT} {e : α → D} {m : Res α} {f : En → Res OT} {ρ : En} (z : ∀ a, fz (eo a) = e a) (h : Sm w eo m (f ρ)) : Sm w e m (FL.fzE f ρ) := (Sm.z z h).fzE
theorem fzP {eo : α → OT} {e : α → D} {a : α} {f : En → Res OT} {ρ : En} (z : ∀ a, fz (eo a) = e a) (h : f ρ = .ok (eo a)) : fzE f ρ = .ok (e a) := by
 exact (fzEE h).trans (by rw [z])
theorem ofP {d : D} {f : En → Res D} {ρ : En} (h : f ρ = .ok d) : ofE f ρ = .ok (.d d) := by
 unfold ofE; rw [h]; rfl
theorem Sm.of {w : Prop} {e : α → D} {m : Res α} {f : En → Res D} {ρ : En} (h : Sm w e m (f ρ)) : Sm w (oD e) m (ofE f ρ) := by
 cases m with
 | ok a => exact ofP h
 | ex x => exact fun z => by unfold ofE; rw [h z]; rfl
 | bad => exact trivial
theorem callP {F : List D → Res OT} {fs : En → Res (List D)} {ρ : En} {ds : List D} {r : Res OT} (ha : fs ρ = .ok ds) (h : F ds = r) : call F fs ρ = r := by
 unfold call; rw [ha]; exact h
theorem Sm.call {w : Prop} {eo : α → OT} {m : Res α} {F : List D → Res OT} {fs : En → Res (List D)} {ρ : En} {ds : List D} (ha : fs ρ = .ok ds) (h : Sm w eo m (F ds)) : Sm w eo m (FL.call F fs ρ) := by rw [callP ha rfl]; exact h
theorem Sz.call {w : Prop} {eo : α → D} {m : Res α} {F : List D → Res OT} {fs : En → Res (List D)} {ρ : En} {ds : List D} (ha : fs ρ = .ok ds) (h : Sz w eo m (F ds)) : Sz w eo m (FL.call F fs ρ) := by rw [callP ha rfl]; exact h
theorem Sm.call0 {w : Prop} {eo : α → OT} {m : Res α} {F : List D → Res OT} {fs : En → Res (List D)} {ρ : En} {ds : List D} (ha : fs ρ = .ok ds) (h : Sm w eo m (F ds)) : Sm False eo m (FL.call (nx0 F) fs ρ) := by
 rw [callP ha rfl]
 cases m with
 | ok a => exact nx0_ok h
 | ex x => exact fun z => z.elim
 | bad => exact trivial
section
variable {fa fb : En → Res D} {ta tb : En → Res Bool} {ρ : En} {b : Bool} {m : Res Bool} {w : Prop}
theorem andP {b2 : Bool} (h1 : fa ρ = .ok (.bl b)) (h2 : fb ρ = .ok (.bl b2)) : andD fa fb ρ = .ok (.bl (b && b2)) := by
 cases b with
 | true => exact andD_t h1 h2
 | false => exact andD_f h1
theorem andQ {b2 : Bool} (h1 : ta ρ = .ok b) (h2 : tb ρ = .ok b2) : andT ta tb ρ = .ok (b && b2) := by
 cases b with
 | true => exact andT_t h1 h2
 | false => exact andT_f h1
theorem orQ {b2 : Bool} (h1 : ta ρ = .ok b) (h2 : tb ρ = .ok b2) : orT ta tb ρ = .ok (b || b2) := by
 cases b with
 | true => exact orT_t h1
 | false => exact orT_f h1 h2
theorem Sm.and (h1 : fa ρ = .ok (.bl b)) (h2 : Sm w eB m (fb ρ)) : Sm w eB (if b = true then m else .ok false) (andD fa fb ρ) := by
 cases b with
 | true => rw [if_pos rfl, andD_t h1 rfl]; exact h2
 | false => exact andD_f h1
theorem Sm.or (h1 : fa ρ = .ok (.bl b)) (h2 : Sm w eB m (fb ρ)) : Sm w eB (if b = true then .ok true else m) (orD fa fb ρ) := by
 cases b with
 | true => exact orD_t h1
 | false => rw [if_neg Bool.false_ne_true, orD_f h1 rfl]; exact h2
theorem Sm.andT (h1 : ta ρ = .ok b) (h2 : Sm w id m (tb ρ)) : Sm w id (if b = true then m else .ok false) (FL.andT ta tb ρ) := by
 cases b with
 | true => rw [if_pos rfl, andT_t h1 rfl]; exact h2
 | false => exact andT_f h1
theorem borQ {t : En → Res Bool} {ρ' : En} (hf : frz ρ = ρ') (h : Sm False id m (t ρ')) : Sm False id m (borT t ρ) := by
 cases m with
 | ok a => exact borT_ok (by rw [hf]; exact h)
 | ex x => exact fun z => z.elim
 | bad => exact trivial
theorem borP {f : En → Res D} {e : α → D} {m : Res α} {ρ' : En} (fl : ∀ a, flat (e a) = true) (hf : frz ρ = ρ') (h : Sm False e m (f ρ')) : Sm False e m (bor f ρ) := by
 cases m with
 | ok a => exact bor_ok (by rw [hf]; exact h) (fl a)
 | ex x => exact fun z => z.elim
 | bad => exact trivial
theorem borS {f : En → Res OT} {e : α → OT} {m : Res α} {ρ' : En} (fl : ∀ a, flatT (e a) = true) (hf : frz ρ = ρ') (h : Sm False e m (f ρ')) : Sm False e m (borO f ρ) := by
 cases m with
 | ok a => exact borO_ok (by rw [hf]; exact h) (fl a)
 | ex x => exact fun z => z.elim
 | bad => exact trivial
theorem borQp {t : En → Res Bool} {ρ' : En} (hf : frz ρ = ρ') (h : t ρ' = .ok b) : borT t ρ = .ok b := borT_ok (by rw [hf]; exact h)
end
theorem flatTs_oD {e : α → D} (h : ∀ a, flat (e a) = true) (l : List α) : flatTs (l.map (oD e)) = true := by
 induction l with
 | nil => rfl
 | cons a l ih => rw [List.map_cons, flatTs, ih, Bool.and_true]; exact h a
theorem flatL {e : α → D} (h : ∀ a, flat (e a) = true) (l : List α) : flatT (oL (oD e) l) = true := by
 unfold oL; rw [flatT, flatTs_oD h]
theorem cnsP {fa : En → Res D} {fs : En → Res (List D)} {ρ : En} {d : D} {zs : List D} (h : fa ρ = .ok d) (h2 : fs ρ = .ok zs) : consA fa fs ρ = .ok (d :: zs) := consE h h2
theorem nilE {ρ : En} : nilA ρ = .ok [] := rfl
theorem calP {g : List D → Option α} {fs : En → Res (List D)} {ρ : En} {ds : List D} {x : α} (h : fs ρ = .ok ds) (hg : g ds = some x) : cal g fs ρ = .ok x := by
 unfold cal; rw [h, Res.bind_ok, hg]; rfl
theorem Sm.op2 {g : D → D → Option D} {fa fb : En → Res D} {ρ : En} {e : α → D} {m : Res α} {x y : D} (ha : fa ρ = .ok x) (hb : fb ρ = .ok y) (hg : ∀ a, m = .ok a → g x y = some (e a)) : Sm False e m (FL.op2 g fa fb ρ) := by
 cases m with
 | ok a => exact op2E ha hb (hg a rfl)
 | ex x => exact fun z => z.elim
 | bad => exact trivial
theorem Sm.op2O {g : D → D → Option OT} {fa fb : En → Res D} {ρ : En} {e : α → OT} {m : Res α} {x y : D} (ha : fa ρ = .ok x) (hb : fb ρ = .ok y) (hg : ∀ a, m = .ok a → g x y = some (e a)) : Sm False e m (FL.op2O g fa fb ρ) := by
 cases m with
 | ok a => unfold FL.op2O; rw [ha, Res.bind_ok, hb, Res.bind_ok, hg a rfl]; rfl
 | ex x => exact fun z => z.elim
 | bad => exact trivial
theorem Sm.itA {g : List D → Option (List D)} {fs : En → Res (List D)} {ρ : En} {e : α → List D} {m : Res α} {ds : List D} (h : fs ρ = .ok ds) (hg : ∀ a, m = .ok a → g ds = some (e a)) : Sm False e m (FL.itA g fs ρ) := by
 cases m with
 | ok a => unfold FL.itA; rw [h, Res.bind_ok, hg a rfl]; rfl
 | ex x => exact fun z => z.elim
 | bad => exact trivial
theorem sliP {fa : En → Res D} {fl fh : En → Res (Option Int)} {ρ : En} {x y : D} {lo hi : Option Int} (ha : fa ρ = .ok x) (hl : fl ρ = .ok lo) (hh : fh ρ = .ok hi) (hg : slD x lo hi = some y) : sli fa fl fh ρ = .ok y := by
 unfold sli; rw [ha, Res.bind_ok, hl, Res.bind_ok, hh, Res.bind_ok, hg]; rfl
theorem sliOP {fa : En → Res D} {fl fh : En → Res (Option Int)} {ρ : En} {x : D} {y : OT} {lo hi : Option Int} (ha : fa ρ = .ok x) (hl : fl ρ = .ok lo) (hh : fh ρ = .ok hi) (hg : slO x lo hi = some y) : sliO fa fl fh ρ = .ok y := by
 unfold sliO; rw [ha, Res.bind_ok, hl, Res.bind_ok, hh, Res.bind_ok, hg]; rfl
theorem Sm.sli {fa : En → Res D} {fl fh : En → Res (Option Int)} {ρ : En} {e : α → D} {m : Res α} {x : D} {lo hi : Option Int} (ha : fa ρ = .ok x) (hl : fl ρ = .ok lo) (hh : fh ρ = .ok hi) (hg : ∀ a, m = .ok a → slD x lo hi = some (e a)) : Sm False e m (FL.sli fa fl fh ρ) := by
 cases m with
 | ok a => exact sliP ha hl hh (hg a rfl)
 | ex x => exact fun z => z.elim
 | bad => exact trivial
theorem partP {f : En → Res D} {ρ : En} {i : Int} (h : f ρ = .ok (.int i)) : part f ρ = .ok (some i) := by
 unfold part; rw [h]; rfl
def comp (p : α → Res Bool) (q : α → Res β) : List α → Res (List β)
 | [] => .ok []
 | x :: xs => match p x with
  | .ok true => nb (q x) fun y => nb (comp p q xs) fun ys => .ok (y :: ys)
  | .ok false => comp p q xs
  | _ => .bad
theorem comp_ok {p : α → Res Bool} {q : α → Res β} {p' : α → Bool} {q' : α → β} : ∀ {xs : List α}, (∀ x ∈ xs, p x = .ok (p' x) ∧ (p' x = true → q x = .ok (q' x))) → comp p q xs = .ok ((xs.filter p').map q')
 | [], _ => rfl
 | x :: xs, h => by
  obtain ⟨h1, h2⟩ := h x List.mem_cons_self
  have ih := comp_ok (p := p) (q := q) (xs := xs) fun y hy => h y (List.mem_cons_of_mem _ hy)
  unfold comp
  rw [h1]
  cases e : p' x with
  | true =>
   rw [List.filter_cons_of_pos e]
   dsimp only
   rw [h2 e, ih]; rfl
  | false =>
   rw [List.filter_cons_of_neg (by rw [e]; exact Bool.false_ne_true)]
   exact ih
theorem comp_map {q : α → Res β} {q' : α → β} {xs : List α} (h : ∀ x ∈ xs, q x = .ok (q' x)) : comp (fun _ => .ok true) q xs = .ok (xs.map q') := by
 rw [comp_ok (p' := fun _ => true) (q' := q') fun x hx => ⟨rfl, fun _ => h x hx⟩]
 congr 2
 exact List.filter_eq_self.mpr fun _ _ => rfl
theorem lcL_comp {g : D → En → Option En} {tt : En → Res Bool} {fe : En → Res OT} {ρ : En} {e : α → D} {eo : β → OT} {p : α → Res Bool} {q : α → Res β} (h : ∀ a, ∃ ρ1, g (e a) ρ = some ρ1 ∧ Sm False id (p a) (tt ρ1) ∧ Sm False eo (q a) (fe ρ1)) : ∀ {xs : List α} {ys : List β}, comp p q xs = .ok ys → lcL g tt fe ρ (xs.map e) = some (ys.map eo)
 | [], ys, hx => by cases hx; rfl
 | x :: xs, ys, hx => by
  obtain ⟨ρ1, h1, h2, h3⟩ := h x
  unfold comp at hx
  rw [List.map_cons]
  unfold lcL
  rw [h1, Option.bind_some]
  cases e1 : p x with
  | ok b =>
   rw [e1] at hx h2
   rw [show tt ρ1 = .ok b from h2]
   cases b with
   | true =>
    obtain ⟨y, e2, hx⟩ := nb_eq_ok hx
    obtain ⟨zs, e3, hx⟩ := nb_eq_ok hx
    cases hx
    rw [e2] at h3
    rw [show fe ρ1 = .ok (eo y) from h3]
    dsimp only
    rw [lcL_comp h e3]; rfl
   | false => exact lcL_comp h hx
  | ex x => rw [e1] at hx; cases hx
  | bad => rw [e1] at hx; cases hx
theorem Sm.comp {vs : List Nat} {fi : En → Res (List D)} {g : D → En → Option En} {tt : En → Res Bool} {fe : En → Res OT} {ρ : En} {e : α → D} {eo : β → OT} {xs : List α} {p : α → Res Bool} {q : α → Res β} (hi : fi ρ = .ok (xs.map e))
  (h : ∀ a, ∃ ρ1, g (e a) (wipeE ρ vs) = some ρ1 ∧ Sm False id (p a) (tt ρ1) ∧ Sm False eo (q a) (fe ρ1)) : Sm False (oL eo) (FL.comp p q xs) (lcD vs fi g tt fe ρ) := by
 cases e1 : FL.comp p q xs with
 | ok ys => exact lcD_ok hi (lcL_comp h e1)
 | ex x => exact fun z => z.elim
 | bad => exact trivial
theorem compP {vs : List Nat} {fi : En → Res (List D)} {g : D → En → Option En} {tt : En → Res Bool} {fe : En → Res OT} {ρ : En} {e : α → D} {eo : β → OT} {xs : List α} (p : α → Bool) (q : α → β) (hi : fi ρ = .ok (xs.map e))
  (h : ∀ a, ∃ ρ1, g (e a) (wipeE ρ vs) = some ρ1 ∧ tt ρ1 = .ok (p a) ∧ fe ρ1 = .ok (eo (q a))) : lcD vs fi g tt fe ρ = .ok (oL eo ((xs.filter p).map q)) := by
 have c := Sm.comp (p := fun a => .ok (p a)) (q := fun a => .ok (q a)) (eo := eo) hi h
 rw [comp_ok (p' := p) (q' := q) fun x _ => ⟨rfl, fun _ => rfl⟩] at c
 exact c
theorem compY {vs : List Nat} {fi : En → Res (List D)} {g : D → En → Option En} {fe : En → Res OT} {ρ : En} {e : α → D} {eo : β → OT} {xs : List α} (q : α → β) (hi : fi ρ = .ok (xs.map e))
  (h : ∀ a, ∃ ρ1, g (e a) (wipeE ρ vs) = some ρ1 ∧ fe ρ1 = .ok (eo (q a))) : lcD vs fi g yes fe ρ = .ok (oL eo (xs.map q)) := by
 have c := Sm.comp (p := fun _ => .ok true) (q := fun a => .ok (q a)) (eo := eo) (tt := yes) hi fun a => by
  obtain ⟨ρ1, h1, h2⟩ := h a
  exact ⟨ρ1, h1, rfl, h2⟩
 rw [comp_map (q' := q) fun x _ => rfl] at c
 exact c
theorem compF {vs : List Nat} {fi : En → Res (List D)} {g : D → En → Option En} {tt : En → Res Bool} {fe : En → Res OT} {ρ : En} {e : α → D} {xs : List α} (p : α → Bool) (hi : fi ρ = .ok (xs.map e))
  (h : ∀ a, ∃ ρ1, g (e a) (wipeE ρ vs) = some ρ1 ∧ tt ρ1 = .ok (p a) ∧ fe ρ1 = .ok (.d (e a))) : lcD vs fi g tt fe ρ = .ok (oL (oD e) (xs.filter p)) := by
 have c := compP (eo := oD e) p (fun a => a) hi h
 rw [List.map_id'] at c
 exact c
end
end FL
namespace FL
open PySem PySem.Spec PyProof.Rows L2
inductive Fl (σ R : Type) where
 | nx (s : σ) | bk (s : σ) | rt (r : R)
structure Tg (β : Type) where
 Q : Res β → Flw → Prop
 w : Prop
 X : En → Prop
 bad : ∀ f, Q .bad f
 exw : ∀ x f, (w → ∃ ρ, f = .ex x ρ ∧ X ρ) → Q (.ex x) f
section
variable {α β γ δ σ τ R : Type}
def tgR (w : Prop) (X : En → Prop) (er : R → OT → En → Prop) : Tg R where
 Q m f := match m with
  | .ok r => ∃ ρ, (f = .nx ρ ∧ er r (.d .non) ρ) ∨ ∃ o, f = .rt o ρ ∧ er r o ρ
  | .ex x => w → ∃ ρ, f = .ex x ρ ∧ X ρ
  | .bad => True
 w := w
 X := X
 bad _ := trivial
 exw _ _ h := h
def tgB (w : Prop) (X : En → Prop) (er : R → OT → En → Prop) (N : σ → En → Prop) : Tg (Fl σ R) where
 Q m f := match m with
  | .ok (.nx s) => ∃ ρ, (f = .nx ρ ∨ f = .ct ρ) ∧ N s ρ
  | .ok (.bk s) => ∃ ρ, f = .bk ρ ∧ N s ρ
  | .ok (.rt r) => ∃ o ρ, f = .rt o ρ ∧ er r o ρ
  | .ex x => w → ∃ ρ, f = .ex x ρ ∧ X ρ
  | .bad => True
 w := w
 X := X
 bad _ := trivial
 exw _ _ h := h
def tgP (w : Prop) (X : En → Prop) (N : σ → En → Prop) : Tg σ where
 Q m f := match m with
  | .ok s => ∃ ρ, (f = .nx ρ ∨ f = .ct ρ) ∧ N s ρ
  | .ex x => w → ∃ ρ, f = .ex x ρ ∧ X ρ
  | .bad => True
 w := w
 X := X
 bad _ := trivial
 exw _ _ h := h
def tgJ (w : Prop) (X : En → Prop) (N : σ → En → Prop) : Tg σ where
 Q m f := match m with
  | .ok s => ∃ ρ, f = .nx ρ ∧ N s ρ
  | .ex x => w → ∃ ρ, f = .ex x ρ ∧ X ρ
  | .bad => True
 w := w
 X := X
 bad _ := trivial
 exw _ _ h := h
variable {w : Prop} {X : En → Prop} {er : R → OT → En → Prop} {N : σ → En → Prop} {ρ ρ' : En}
structure IsR (T : Tg R) (er : R → OT → En → Prop) : Prop where
 rt : ∀ {r o ρ}, er r o ρ → T.Q (.ok r) (.rt o ρ)
 nx : ∀ {r ρ}, er r (.d .non) ρ → T.Q (.ok r) (.nx ρ)
 X : ∀ ρ, T.X ρ
structure IsB (T : Tg (Fl σ R)) (X : En → Prop) (er : R → OT → En → Prop) (N : σ → En → Prop) : Prop where
 rt : ∀ {r o ρ}, er r o ρ → T.Q (.ok (.rt r)) (.rt o ρ)
 nx : ∀ {s ρ}, N s ρ → T.Q (.ok (.nx s)) (.nx ρ)
 ct : ∀ {s ρ}, N s ρ → T.Q (.ok (.nx s)) (.ct ρ)
 bk : ∀ {s ρ}, N s ρ → T.Q (.ok (.bk s)) (.bk ρ)
 X : ∀ {ρ}, X ρ → T.X ρ
structure IsP (T : Tg σ) (X : En → Prop) (N : σ → En → Prop) : Prop where
 nx : ∀ {s ρ}, N s ρ → T.Q (.ok s) (.nx ρ)
 ct : ∀ {s ρ}, N s ρ → T.Q (.ok s) (.ct ρ)
 X : ∀ {ρ}, X ρ → T.X ρ
structure IsJ (T : Tg σ) (X : En → Prop) (N : σ → En → Prop) : Prop where
 nx : ∀ {s ρ}, N s ρ → T.Q (.ok s) (.nx ρ)
 X : ∀ {ρ}, X ρ → T.X ρ
theorem tgR.rt {r : R} {o : OT} (h : er r o ρ) : (tgR w X er).Q (.ok r) (.rt o ρ) := ⟨ρ, .inr ⟨o, rfl, h⟩⟩
theorem tgR.nx {r : R} (h : er r (.d .non) ρ) : (tgR w X er).Q (.ok r) (.nx ρ) := ⟨ρ, .inl ⟨rfl, h⟩⟩
theorem tgB.rt {r : R} {o : OT} (h : er r o ρ) : (tgB w X er N).Q (.ok (.rt r)) (.rt o ρ) := ⟨o, ρ, rfl, h⟩
theorem tgB.nx {s : σ} (h : N s ρ) : (tgB w X er N).Q (.ok (.nx s)) (.nx ρ) := ⟨ρ, .inl rfl, h⟩
theorem tgB.ct {s : σ} (h : N s ρ) : (tgB w X er N).Q (.ok (.nx s)) (.ct ρ) := ⟨ρ, .inr rfl, h⟩
theorem tgB.bk {s : σ} (h : N s ρ) : (tgB w X er N).Q (.ok (.bk s)) (.bk ρ) := ⟨ρ, rfl, h⟩
theorem tgP.nx {s : σ} (h : N s ρ) : (tgP w X N).Q (.ok s) (.nx ρ) := ⟨ρ, .inl rfl, h⟩
theorem tgP.ct {s : σ} (h : N s ρ) : (tgP w X N).Q (.ok s) (.ct ρ) := ⟨ρ, .inr rfl, h⟩
theorem tgJ.nx {s : σ} (h : N s ρ) : (tgJ w X N).Q (.ok s) (.nx ρ) := ⟨ρ, rfl, h⟩
theorem tgR.is : IsR (tgR w (fun _ => True) er) er := ⟨tgR.rt, tgR.nx, fun _ => trivial⟩
theorem tgB.is : IsB (tgB w X er N) X er N := ⟨tgB.rt, tgB.nx, tgB.ct, tgB.bk, fun h => h⟩
theorem tgP.is : IsP (tgP w X N) X N := ⟨tgP.nx, tgP.ct, fun h => h⟩
theorem tgJ.is : IsJ (tgJ w X N) X N := ⟨tgJ.nx, fun h => h⟩
end
section
variable {α β γ δ σ τ R : Type} {T : Tg β} {m : Res β} {A B C F fA fB : En → Flw} {ρ ρ' : En} {i : Nat}
theorem seq_one : seqF A .nx ρ = A ρ := by
 unfold seqF
 cases A ρ <;> rfl
theorem Tg.one (h : T.Q m (seqF A .nx ρ)) : T.Q m (A ρ) := by rw [seq_one] at h; exact h
theorem Tg.nil (h : T.Q m (F ρ)) : T.Q m (seqF .nx F ρ) := h
theorem Tg.fg (h : T.Q m (F (ρ.set i none))) : T.Q m (fgF i F ρ) := h
theorem Tg.fz {o : OT} {x : D} (e : ρ[i]? = some (some o)) (z : fz o = x) (h : T.Q m (F (ρ.set i (some (.d x))))) : T.Q m (fzF i F ρ) := by
 unfold fzF frzAt; rw [e]; dsimp only; rw [z]; exact h
theorem Tg.nb {e : α → δ} {r1 : Res δ} {m1 : Res α} {K : α → Res β} {f : Flw} (h : Sm False e m1 r1) (k : ∀ a, r1 = .ok (e a) → T.Q (K a) f) : T.Q (nb m1 K) f := by
 cases m1 with
 | ok a => exact k a h
 | ex x => exact T.bad f
 | bad => exact T.bad f
theorem Tg.nq {m1 : Res α} {K : α → Res β} {f : Flw} (k : ∀ a, m1 = .ok a → T.Q (K a) f) : T.Q (FL.nb m1 K) f := by
 cases m1 with
 | ok a => exact k a rfl
 | ex x => exact T.bad f
 | bad => exact T.bad f
theorem Tg.asg {e : α → D} {t : α} {f : En → Res D} {K : α → Res β} (h : f ρ = .ok (e t)) (k : ∀ x, T.Q (K x) (F (ρ.set i (some (.d (e x)))))) : T.Q (FL.nb (.ok t) K) (seqF (asg i f) F ρ) := by
 rw [seq_nx (asg_ok h) rfl]; exact k t
theorem Tg.asgO {e : α → OT} {t : α} {f : En → Res OT} {K : α → Res β} (h : f ρ = .ok (e t)) (k : ∀ x, T.Q (K x) (F (ρ.set i (some (e x))))) : T.Q (FL.nb (.ok t) K) (seqF (asgO i f) F ρ) := by
 rw [seq_nx (asgO_ok h) rfl]; exact k t
theorem Tg.asgS {e : α → D} {m1 : Res α} {f : En → Res D} {K : α → Res β} (h : Sm True e m1 (f ρ)) (hx : T.X ρ) (k : ∀ x, T.Q (K x) (F (ρ.set i (some (.d (e x)))))) : T.Q (m1.bind K) (seqF (FL.asg i f) F ρ) := by
 cases m1 with
 | ok a => rw [seq_nx (asg_ok h) rfl]; exact k a
 | ex x => exact T.exw x _ fun _ => ⟨ρ, seq_ex (asg_ex (h trivial)), hx⟩
 | bad => exact T.bad _
theorem Tg.drp {f : En → Res D} {d : D} (h : f ρ = .ok d) (k : T.Q m (F ρ)) : T.Q m (seqF (FL.drp f) F ρ) := by
 rw [seq_nx (drp_ok h) rfl]; exact k
theorem Tg.drpS {e : α → D} {m1 : Res α} {f : En → Res D} (h : Sm True e m1 (f ρ)) (hx : T.X ρ) (k : T.Q m (F ρ)) : T.Q (m1.bind fun _ => m) (seqF (FL.drp f) F ρ) := by
 cases m1 with
 | ok a => rw [seq_nx (drp_ok h) rfl]; exact k
 | ex x => exact T.exw x _ fun _ => ⟨ρ, seq_ex (drp_ex (h trivial)), hx⟩
 | bad => exact T.bad _
theorem Tg.asgG {f : En → Res D} {d : D} {g : D → En → Option En} {ρ1 : En} (h : f ρ = .ok d) (hg : g d ρ = some ρ1) (k : T.Q m (F ρ1)) : T.Q m (seqF (FL.asgG g f) F ρ) := by
 rw [seq_nx (asgG_ok h hg) rfl]; exact k
theorem Tg.par3 {j l : Nat} {f g h' : En → Res OT} {o o' o2 : OT} (h : f ρ = .ok o) (h2 : g ρ = .ok o') (h3 : h' ρ = .ok o2) (k : T.Q m (F (((ρ.set i (some o)).set j (some o')).set l (some o2)))) : T.Q m (seqF (parO3 i j l f g h') F ρ) := by
 rw [seq_nx (f := parO3 i j l f g h') (ρ' := ((ρ.set i (some o)).set j (some o')).set l (some o2)) (by unfold parO3; rw [h, bindF_ok, h2, bindF_ok, h3, bindF_ok]) rfl]; exact k
theorem Tg.ret {f : En → Res D} {d : D} (h : f ρ = .ok d) (q : T.Q m (.rt (.d d) ρ)) : T.Q m (FL.ret f ρ) := by rw [ret_ok h]; exact q
theorem Tg.sret {f : En → Res D} {d : D} (h : f ρ = .ok d) (q : T.Q m (.rt (.d d) ρ)) : T.Q m (seqF (FL.ret f) F ρ) := by rw [seq_rt (ret_ok h)]; exact q
theorem Tg.sretO {f : En → Res OT} {o : OT} (h : f ρ = .ok o) (q : T.Q m (.rt o ρ)) : T.Q m (seqF (FL.retO f) F ρ) := by rw [seq_rt (retO_ok h)]; exact q
theorem Tg.sretM {o : OT} (h : ρ[i]? = some (some o)) (q : T.Q m (.rt o (ρ.set i none))) : T.Q m (seqF (FL.retM i) F ρ) := by rw [seq_rt (retM_ok h)]; exact q
theorem Tg.sretN (q : T.Q m (.rt (.d .non) ρ)) : T.Q m (seqF FL.retN F ρ) := q
theorem Tg.sra {c : Str} (hx : T.X ρ) : T.Q (.ex ⟨c, none⟩) (seqF (raF c) F ρ) := T.exw _ _ fun _ => ⟨ρ, rfl, hx⟩
theorem Tg.ite {t : En → Res Bool} {b : Bool} {m2 : Res β} (h : t ρ = .ok b) (ha : T.Q m (seqF fA F ρ)) (hb : T.Q m2 (seqF fB F ρ)) : T.Q (if b = true then m else m2) (seqF (ifF t fA fB) F ρ) := by
 have e : seqF (ifF t fA fB) F ρ = if b = true then seqF fA F ρ else seqF fB F ρ := by
  cases b with
  | true => unfold seqF; rw [if_t h rfl]; rfl
  | false => unfold seqF; rw [if_f h rfl]; rfl
 rw [e]
 cases b with
 | true => exact ha
 | false => exact hb
theorem Tg.ite1 {t : En → Res Bool} {b : Bool} {m2 : Res β} (h : t ρ = .ok b) (ha : T.Q m (fA ρ)) (hb : T.Q m2 (fB ρ)) : T.Q (if b = true then m else m2) (ifF t fA fB ρ) := by
 cases b with
 | true => rw [if_t h rfl]; exact ha
 | false => rw [if_f h rfl]; exact hb
theorem Tg.asg1 {f : En → Res D} {d : D} (h : f ρ = .ok d) (k : T.Q m (F (ρ.set i (some (.d d))))) : T.Q m (seqF (FL.asg i f) F ρ) := by
 rw [seq_nx (asg_ok h) rfl]; exact k
theorem Tg.asgO1 {f : En → Res OT} {o : OT} (h : f ρ = .ok o) (k : T.Q m (F (ρ.set i (some o)))) : T.Q m (seqF (FL.asgO i f) F ρ) := by
 rw [seq_nx (asgO_ok h) rfl]; exact k
theorem Tg.jn {N : σ → En → Prop} {m1 : Res σ} {K : σ → Res β} (h : ∀ T' : Tg σ, IsJ T' T.X N → T'.Q m1 (A ρ)) (k : ∀ s ρ', N s ρ' → T.Q (K s) (F ρ')) : T.Q (m1.bind K) (seqF A F ρ) := by
 replace h := h (tgJ T.w T.X N) tgJ.is
 cases m1 with
 | ok s =>
  obtain ⟨ρ', e, n⟩ := h
  rw [seq_nx e rfl]; exact k s ρ' n
 | ex x =>
  exact T.exw x _ fun z => by
   obtain ⟨ρ', e, n⟩ := h z
   exact ⟨ρ', seq_ex e, n⟩
 | bad => exact T.bad _
def fo (body : α → σ → Res σ) : List α → σ → Res σ
 | [], s => .ok s
 | x :: xs, s => (body x s).bind fun s' => fo body xs s'
def lp (body : α → σ → Res (Fl σ R)) : List α → σ → Res (Fl σ R)
 | [], s => .ok (.nx s)
 | x :: xs, s => (body x s).bind fun o => match o with
  | .nx s' => lp body xs s'
  | .bk s' => .ok (.nx s')
  | .rt r => .ok (.rt r)
def fin (o : Fl σ R) (K : σ → Res β) (L : R → Res β) : Res β := match o with
 | .nx s => K s
 | .bk s => K s
 | .rt r => L r
@[simp] theorem fin_nx (s : σ) (K : σ → Res β) (L : R → Res β) : fin (.nx s) K L = K s := rfl
@[simp] theorem fin_rt (r : R) (K : σ → Res β) (L : R → Res β) : fin (.rt r : Fl σ R) K L = L r := rfl
theorem fo_sim {w : Prop} {X : En → Prop} {N : σ → En → Prop} {e : α → D} {g : D → En → Option En} {body : α → σ → Res σ} (hb : ∀ a s ρ, N s ρ → ∃ ρ1, g (e a) ρ = some ρ1 ∧ (tgP w X N).Q (body a s) (F ρ1)) : ∀ (xs : List α) (s : σ) (ρ : En), N s ρ → (tgJ w X N).Q (fo body xs s) (forL g F (xs.map e) ρ)
 | [], s, ρ, h => ⟨ρ, rfl, h⟩
 | x :: xs, s, ρ, h => by
  obtain ⟨ρ1, h1, h2⟩ := hb x s ρ h
  rw [List.map_cons]
  unfold forL fo
  rw [h1]
  dsimp only
  cases e1 : body x s with
  | ok s' =>
   rw [e1] at h2
   obtain ⟨ρ2, e2, n⟩ := h2
   rw [Res.bind_ok]
   rcases e2 with e2 | e2
   ·rw [e2]; exact fo_sim hb xs s' ρ2 n
   ·rw [e2]; exact fo_sim hb xs s' ρ2 n
  | ex x =>
   rw [e1] at h2
   exact fun z => by
    obtain ⟨ρ2, e2, n⟩ := h2 z
    rw [e2]; exact ⟨ρ2, rfl, n⟩
  | bad => exact trivial
theorem Tg.fo {N : σ → En → Prop} {e : α → D} {g : D → En → Option En} {fi : En → Res (List D)} {xs : List α} {s0 : σ} {body : α → σ → Res σ} {K : σ → Res β} (hi : fi ρ = .ok (xs.map e)) (h0 : N s0 ρ)
  (hb : ∀ T' : Tg σ, IsP T' T.X N → ∀ a s ρ, N s ρ → ∃ ρ1, g (e a) ρ = some ρ1 ∧ T'.Q (body a s) (A ρ1)) (k : ∀ s ρ', N s ρ' → T.Q (K s) (F ρ')) : T.Q ((FL.fo body xs s0).bind K) (seqF (forF fi g A) F ρ) := by
 replace hb := hb (tgP T.w T.X N) tgP.is
 have hj := fo_sim hb xs s0 ρ h0
 cases e : FL.fo body xs s0 with
 | ok s =>
  rw [e] at hj
  obtain ⟨ρ', e2, n⟩ := hj
  rw [seq_nx ((for_ok hi).trans e2) rfl]; exact k s ρ' n
 | ex x =>
  rw [e] at hj
  exact T.exw x _ fun z => by
   obtain ⟨ρ', e2, n⟩ := hj z
   exact ⟨ρ', seq_ex ((for_ok hi).trans e2), n⟩
 | bad => exact T.bad _
theorem lp_sim {w : Prop} {X : En → Prop} {er : R → OT → En → Prop} {N : σ → En → Prop} {e : α → D} {g : D → En → Option En} {body : α → σ → Res (Fl σ R)} (hb : ∀ a s ρ, N s ρ → ∃ ρ1, g (e a) ρ = some ρ1 ∧ (tgB w X er N).Q (body a s) (F ρ1)) : ∀ (xs : List α) (s : σ) (ρ : En), N s ρ →
  match lp body xs s with
  | .ok (.nx s') => ∃ ρ', forL g F (xs.map e) ρ = .nx ρ' ∧ N s' ρ'
  | .ok (.bk s') => ∃ ρ', forL g F (xs.map e) ρ = .nx ρ' ∧ N s' ρ'
  | .ok (.rt r) => ∃ o ρ', forL g F (xs.map e) ρ = .rt o ρ' ∧ er r o ρ'
  | .ex x => w → ∃ ρ', forL g F (xs.map e) ρ = .ex x ρ' ∧ X ρ'
  | .bad => True
 | [], s, ρ, h => ⟨ρ, rfl, h⟩
 | x :: xs, s, ρ, h => by
  obtain ⟨ρ1, h1, h2⟩ := hb x s ρ h
  rw [List.map_cons]
  unfold forL lp
  rw [h1]
  dsimp only
  cases e1 : body x s with
  | ok o =>
   rw [e1] at h2
   rw [Res.bind_ok]
   cases o with
   | nx s' =>
    obtain ⟨ρ2, e2, n⟩ := h2
    rcases e2 with e2 | e2
    ·rw [e2]; exact lp_sim hb xs s' ρ2 n
    ·rw [e2]; exact lp_sim hb xs s' ρ2 n
   | bk s' =>
    obtain ⟨ρ2, e2, n⟩ := h2
    rw [e2]; exact ⟨ρ2, rfl, n⟩
   | rt r =>
    obtain ⟨o, ρ2, e2, n⟩ := h2
    rw [e2]; exact ⟨o, ρ2, rfl, n⟩
  | ex x =>
   rw [e1] at h2
   exact fun z => by
    obtain ⟨ρ2, e2, n⟩ := h2 z
    rw [e2]; exact ⟨ρ2, rfl, n⟩
  | bad => exact trivial
theorem Tg.fin {N : σ → En → Prop} {er : R → OT → En → Prop} {m1 : Res (Fl σ R)} {K : σ → Res β} {L : R → Res β} (hl : match m1 with
  | .ok (.nx s') => ∃ ρ', A ρ = .nx ρ' ∧ N s' ρ'
  | .ok (.bk s') => ∃ ρ', A ρ = .nx ρ' ∧ N s' ρ'
  | .ok (.rt r) => ∃ o ρ', A ρ = .rt o ρ' ∧ er r o ρ'
  | .ex x => T.w → ∃ ρ', A ρ = .ex x ρ' ∧ T.X ρ'
  | .bad => True) (q : ∀ r o ρ', er r o ρ' → T.Q (L r) (.rt o ρ')) (k : ∀ s ρ', N s ρ' → T.Q (K s) (F ρ')) : T.Q (m1.bind fun o => FL.fin o K L) (seqF A F ρ) := by
 cases m1 with
 | ok o =>
  rw [Res.bind_ok]
  cases o with
  | nx s =>
   obtain ⟨ρ', e, n⟩ := hl
   rw [seq_nx e rfl]; exact k s ρ' n
  | bk s =>
   obtain ⟨ρ', e, n⟩ := hl
   rw [seq_nx e rfl]; exact k s ρ' n
  | rt r =>
   obtain ⟨o, ρ', e, n⟩ := hl
   rw [seq_rt e]; exact q r o ρ' n
 | ex x =>
  exact T.exw x _ fun z => by
   obtain ⟨ρ', e, n⟩ := hl z
   exact ⟨ρ', seq_ex e, n⟩
 | bad => exact T.bad _
theorem Tg.lp {N : σ → En → Prop} {er : R → OT → En → Prop} {e : α → D} {g : D → En → Option En} {fi : En → Res (List D)} {xs : List α} {s0 : σ} {body : α → σ → Res (Fl σ R)} {K : σ → Res β} {L : R → Res β} (hi : fi ρ = .ok (xs.map e)) (h0 : N s0 ρ)
  (hb : ∀ T' : Tg (Fl σ R), IsB T' T.X er N → ∀ a s ρ, N s ρ → ∃ ρ1, g (e a) ρ = some ρ1 ∧ T'.Q (body a s) (A ρ1)) (q : ∀ r o ρ', er r o ρ' → T.Q (L r) (.rt o ρ')) (k : ∀ s ρ', N s ρ' → T.Q (K s) (F ρ')) : T.Q ((FL.lp body xs s0).bind fun o => FL.fin o K L) (seqF (forF fi g A) F ρ) := by
 replace hb := hb (tgB T.w T.X er N) tgB.is
 refine Tg.fin (N := N) (er := er) ?_ q k
 rw [for_ok hi]
 exact lp_sim hb xs s0 ρ h0
def whK (c : σ → Res Bool) (body : σ → Res (Fl σ R)) : Nat → σ → Option (Res (Fl σ R))
 | 0, _ => none
 | n + 1, s => match c s with
  | .ok true => match body s with
   | .ok (.nx s') => whK c body n s'
   | .ok (.bk s') => some (.ok (.nx s'))
   | .ok (.rt r) => some (.ok (.rt r))
   | .ex x => some (.ex x)
   | .bad => some .bad
  | .ok false => some (.ok (.nx s))
  | .ex x => some (.ex x)
  | .bad => some .bad
open Classical in
noncomputable def wh (c : σ → Res Bool) (body : σ → Res (Fl σ R)) (s : σ) : Res (Fl σ R) := if h : ∃ n r, whK c body n s = some r then h.choose_spec.choose else .bad
theorem whK_more {c : σ → Res Bool} {body : σ → Res (Fl σ R)} : ∀ {n m : Nat} {s : σ} {r : Res (Fl σ R)}, n ≤ m → whK c body n s = some r → whK c body m s = some r
 | 0, _, _, _, _, h => by cases h
 | n + 1, 0, _, _, l, _ => by omega
 | n + 1, m + 1, s, r, l, h => by
  unfold whK at h ⊢
  split at h
  ·split at h
   ·exact whK_more (by omega) h
   ·exact h
   ·exact h
   ·exact h
   ·exact h
  ·exact h
  ·exact h
  ·exact h
theorem wh_of {c : σ → Res Bool} {body : σ → Res (Fl σ R)} {n : Nat} {s : σ} {r : Res (Fl σ R)} (h : whK c body n s = some r) : wh c body s = r := by
 have hx : ∃ n r, whK c body n s = some r := ⟨n, r, h⟩
 unfold wh
 rw [dif_pos hx]
 have e := hx.choose_spec.choose_spec
 have a := whK_more (Nat.le_max_left n hx.choose) h
 have b := whK_more (Nat.le_max_right n hx.choose) e
 rw [a] at b
 exact (Option.some.inj b).symm
theorem whK_sim {X : En → Prop} {er : R → OT → En → Prop} {N : σ → En → Prop} {t : En → Res Bool} {c : σ → Res Bool} {body : σ → Res (Fl σ R)} (hc : ∀ s ρ, N s ρ → Sm False id (c s) (t ρ)) (hb : ∀ s ρ, N s ρ → (tgB False X er N).Q (body s) (F ρ)) : ∀ (n : Nat) (s : σ) (ρ : En) (m : Res (Fl σ R)), N s ρ → whK c body n s = some m →
  match m with
  | .ok (.nx s') => ∃ ρ', whN t F n ρ = some (.nx ρ') ∧ N s' ρ'
  | .ok (.bk s') => ∃ ρ', whN t F n ρ = some (.nx ρ') ∧ N s' ρ'
  | .ok (.rt r) => ∃ o ρ', whN t F n ρ = some (.rt o ρ') ∧ er r o ρ'
  | _ => True
 | 0, _, _, _, _, h => by cases h
 | n + 1, s, ρ, m, hN, h => by
  unfold whK at h
  unfold whN
  have h1 := hc s ρ hN
  have h2 := hb s ρ hN
  cases e1 : c s with
  | ok b =>
   rw [e1] at h h1
   rw [show t ρ = .ok b from h1]
   cases b with
   | true =>
    dsimp only at h ⊢
    cases e2 : body s with
    | ok o =>
     rw [e2] at h h2
     cases o with
     | nx s' =>
      obtain ⟨ρ2, e3, n'⟩ := h2
      rcases e3 with e3 | e3
      ·rw [e3]; exact whK_sim hc hb n s' ρ2 m n' h
      ·rw [e3]; exact whK_sim hc hb n s' ρ2 m n' h
     | bk s' =>
      obtain ⟨ρ2, e3, n'⟩ := h2
      cases h
      rw [e3]; exact ⟨ρ2, rfl, n'⟩
     | rt r =>
      obtain ⟨o, ρ2, e3, n'⟩ := h2
      cases h
      rw [e3]; exact ⟨o, ρ2, rfl, n'⟩
    | ex x => rw [e2] at h; cases h; exact trivial
    | bad => rw [e2] at h; cases h; exact trivial
   | false => cases h; exact ⟨ρ, rfl, hN⟩
  | ex x => rw [e1] at h; cases h; exact trivial
  | bad => rw [e1] at h; cases h; exact trivial
theorem Tg.wh {N : σ → En → Prop} {er : R → OT → En → Prop} {t : En → Res Bool} {s0 : σ} {c : σ → Res Bool} {body : σ → Res (Fl σ R)} {K : σ → Res β} {L : R → Res β} (h0 : N s0 ρ) (hc : ∀ s ρ, N s ρ → Sm False id (c s) (t ρ))
  (hb : ∀ T' : Tg (Fl σ R), IsB T' T.X er N → ∀ s ρ, N s ρ → T'.Q (body s) (A ρ)) (q : ∀ r o ρ', er r o ρ' → T.Q (L r) (.rt o ρ')) (k : ∀ s ρ', N s ρ' → T.Q (K s) (F ρ')) : T.Q (FL.nb (FL.wh c body s0) fun o => FL.fin o K L) (seqF (whF t A) F ρ) := by
 replace hb := hb (tgB False T.X er N) tgB.is
 cases e : FL.wh c body s0 with
 | ok o =>
  have hx : ∃ n, whK c body n s0 = some (.ok o) := by
   unfold FL.wh at e
   split at e
   ·rename_i hx
    exact ⟨hx.choose, by rw [← e]; exact hx.choose_spec.choose_spec⟩
   ·cases e
  obtain ⟨n, hn⟩ := hx
  have hs := whK_sim hc hb n s0 ρ _ h0 hn
  rw [nb_ok]
  cases o with
  | nx s =>
   obtain ⟨ρ', e, n⟩ := hs
   rw [seq_nx (whF_of e) rfl]; exact k s ρ' n
  | bk s =>
   obtain ⟨ρ', e, n⟩ := hs
   rw [seq_nx (whF_of e) rfl]; exact k s ρ' n
  | rt r =>
   obtain ⟨o, ρ', e, n⟩ := hs
   rw [seq_rt (whF_of e)]; exact q r o ρ' n
 | ex x => exact T.bad _
 | bad => exact T.bad _
theorem Sz.run {w : Prop} {e : R → D} {mr : Res R} {a n : Nat} {ds : List D} (hl : ds.length = a) (hr : args n ds = ρ) (h : ∀ T : Tg R, IsR T (fun r o _ => FL.fz o = e r) → T.Q mr (F ρ)) : Sz w e mr (FL.run a n F ds) := by
 subst hr
 replace h := h (tgR w (fun _ => True) _) tgR.is
 unfold FL.run
 rw [if_pos hl]
 cases mr with
 | ok r =>
  obtain ⟨ρ, ⟨h1, h2⟩ | ⟨o, h1, h2⟩⟩ := h
  ·rw [h1]; exact ⟨_, rfl, h2⟩
  ·rw [h1]; exact ⟨_, rfl, h2⟩
 | ex x => exact fun z => by obtain ⟨ρ, h1, _⟩ := h z; rw [h1]
 | bad => exact trivial
theorem Sm.run {w : Prop} {e : R → OT} {mr : Res R} {a n : Nat} {ds : List D} (hl : ds.length = a) (hr : args n ds = ρ) (h : ∀ T : Tg R, IsR T (fun r o _ => o = e r) → T.Q mr (F ρ)) : Sm w e mr (FL.run a n F ds) := by
 subst hr
 replace h := h (tgR w (fun _ => True) _) tgR.is
 unfold FL.run
 rw [if_pos hl]
 cases mr with
 | ok r =>
  obtain ⟨ρ, ⟨h1, h2⟩ | ⟨o, h1, h2⟩⟩ := h
  ·rw [h1]; exact congrArg Res.ok h2
  ·rw [h1]; exact congrArg Res.ok h2
 | ex x => exact fun z => by obtain ⟨ρ, h1, _⟩ := h z; rw [h1]
 | bad => exact trivial
end
end FL
namespace FL
open PySem PySem.Spec PyProof.Rows L2
section
variable {α β γ δ σ R : Type}
def sg (c : Nat) : Str := ⟨#[c]⟩
abbrev eG : Nat → D := fun c => .str (sg c)
@[irreducible] def chk (p : Prop) [Decidable p] (a : α) : Res α := if p then .ok a else .bad
theorem chk_ok {p : Prop} [Decidable p] {a : α} (h : p) : chk p a = .ok a := by unfold chk; exact if_pos h
theorem chk_eq {p : Prop} [Decidable p] {a b : α} (h : chk p a = .ok b) : p ∧ a = b := by
 unfold chk at h
 split at h
 ·cases h; exact ⟨by assumption, rfl⟩
 ·cases h
structure Eqn [DecidableEq α] (k : Nat) (e : α → D) : Prop where
 eq : ∀ a b, eqv (e a) (e b) = decide (a = b)
 pl : ∀ n a, k ≤ n → plain n (e a) = true
theorem EqnI : Eqn 0 eI := ⟨fun _ _ => rfl, fun n a _ => by cases n <;> rfl⟩
theorem EqnB : Eqn 0 eB := ⟨fun a b => by cases a <;> cases b <;> rfl, fun n a _ => by cases n <;> rfl⟩
theorem EqnS : Eqn 0 eS := ⟨fun _ _ => rfl, fun n a _ => by cases n <;> rfl⟩
theorem plains_map {e : α → D} {n : Nat} (h : ∀ a, plain n (e a) = true) (l : List α) : plains (n + 1) (l.map e) = true := plains_all fun d hd => by
 obtain ⟨a, _, rfl⟩ := List.mem_map.mp hd
 exact h a
theorem eqvs_map [DecidableEq α] {e : α → D} (h : ∀ a b, eqv (e a) (e b) = decide (a = b)) : ∀ l m : List α, eqvs (l.map e) (m.map e) = decide (l = m)
 | [], [] => rfl
 | [], _ :: _ => rfl
 | _ :: _, [] => rfl
 | a :: l, b :: m => by
  rw [List.map_cons, List.map_cons, eqvs, h, eqvs_map h l m]
  by_cases e1 : a = b
  ·by_cases e2 : l = m
   ·simp [e1, e2]
   ·simp [e1, e2]
  ·simp [e1]
theorem EqnL [DecidableEq α] {k : Nat} {e : α → D} (h : Eqn k e) : Eqn (k + 1) (eL e) := ⟨fun a b => by unfold eL; rw [eqv, eqvs_map h.eq], fun n a hn => by
 obtain ⟨n, rfl⟩ : ∃ m, n = m + 1 := ⟨n - 1, by omega⟩
 unfold eL; rw [plain]; exact plains_map (fun a => h.pl n a (by omega)) a⟩
theorem EqnO [DecidableEq α] {k : Nat} {e : α → D} (nn : ∀ a, eqv (e a) .non = false ∧ eqv .non (e a) = false) (h : Eqn k e) : Eqn k (eO e) := ⟨fun a b => by
 cases a with
 | none => cases b with
  | none => rfl
  | some b => exact (nn b).2
 | some a => cases b with
  | none => exact (nn a).1
  | some b => rw [eO, eO, h.eq]; simp, fun n a hn => by
 cases a with
 | none => cases n <;> rfl
 | some a => exact h.pl n a hn⟩
theorem eqP [DecidableEq α] {k : Nat} {e : α → D} (h : Eqn k e) (a b : α) (hk : k ≤ 64 := by decide) : eqD (e a) (e b) = some (.bl (decide (a = b))) := by
 unfold eqD; rw [h.pl 64 a hk, h.pl 64 b hk, h.eq]; rfl
theorem neP [DecidableEq α] {k : Nat} {e : α → D} (h : Eqn k e) (a b : α) (hk : k ≤ 64 := by decide) : neD (e a) (e b) = some (.bl (!decide (a = b))) := by
 unfold neD; rw [h.pl 64 a hk, h.pl 64 b hk, h.eq]; rfl
theorem inG (c : Nat) (z : Str) : inD1 (eG c) (eS z) = some (.bl (decide (c ∈ z.cps.toList))) := by
 unfold inD1 inD
 dsimp only
 rw [if_pos (by rfl)]; rfl
def atL (l : List α) (i : Int) : Res α := match L2.atI l i with
 | some x => .ok x
 | none => .bad
theorem atL_in {l : List α} {i : Int} {x : α} (h0 : 0 ≤ i) (h : l[i.toNat]? = some x) : atL l i = .ok x := by
 unfold atL; rw [atI_in h0 h]
theorem atL_some {l : List α} {i : Int} {x : α} (h : atL l i = .ok x) : L2.atI l i = some x := by
 unfold atL at h
 split at h
 ·rename_i y e; cases h; exact e
 ·cases h
theorem ixL {e : α → D} {l : List α} {i : Int} (a : α) (h : atL l i = .ok a) : ixD (eL e l) (.int i) = some (e a) := by
 show L2.atI (l.map e) i = _
 rw [atI_map, atL_some h]; rfl
theorem ixC {l : List Int} {i : Int} (a : Int) (h : atL l i = .ok a) : ixD (eC l) (.int i) = some (eI a) := by
 show (L2.atI l i).map D.int = _
 rw [atL_some h]; rfl
def atS (z : Str) (i : Int) : Res Str := nb (atL z.cps.toList i) fun c => .ok (sg c)
theorem ixS {z : Str} {i : Int} (a : Str) (h : atS z i = .ok a) : ixD (eS z) (.int i) = some (eS a) := by
 unfold atS at h
 obtain ⟨c, h1, h2⟩ := nb_eq_ok h
 cases h2
 show (L2.atI z.cps.toList i).map (fun c => D.str ⟨#[c]⟩) = _
 rw [atL_some h1]; rfl
theorem look_map {κ κ' : Type} [DecidableEq κ] [DecidableEq κ'] {f : κ' → κ} (hf : ∀ a b, f a = f b → a = b) {e : α → β} (k : κ') : ∀ l : List (κ' × α), look (l.map fun p => f p.1) (l.map fun p => e p.2) (f k) = (l.lookup k).map e
 | [] => rfl
 | (q, x) :: l => by
  rw [List.map_cons, List.map_cons, look, List.lookup_cons]
  by_cases h : q = k
  ·rw [if_pos (by rw [h]), h]; simp
  ·rw [if_neg (fun z => h (hf _ _ z)), look_map hf k l]
   have : (k == q) = false := by simp; exact fun z => h z.symm
   rw [this]
def getK {κ : Type} [BEq κ] (l : List (κ × α)) (k : κ) : Res α := match l.lookup k with
 | some x => .ok x
 | none => .bad
theorem getK_some {κ : Type} [BEq κ] {l : List (κ × α)} {k : κ} {x : α} (h : getK l k = .ok x) : l.lookup k = some x := by
 unfold getK at h
 split at h
 ·rename_i y e; cases h; exact e
 ·cases h
theorem inl_inj' (a b : Int) (h : (Sum.inl a : Key) = .inl b) : a = b := by cases h; rfl
theorem inr_inj' (a b : Str) (h : (Sum.inr a : Key) = .inr b) : a = b := by cases h; rfl
theorem ixKI {e : α → D} {l : List (Int × α)} {k : Int} (a : α) (h : getK l k = .ok a) : ixD (eKI e l) (.int k) = some (e a) := by
 unfold eKI ixD
 show look (l.map fun p => (Sum.inl p.1 : Key)) (l.map fun p => e p.2) (Sum.inl k) = _
 rw [look_map inl_inj', getK_some h]; rfl
theorem ixKS {e : α → D} {l : List (Str × α)} {k : Str} (a : α) (h : getK l k = .ok a) : ixD (eKS e l) (.str k) = some (e a) := by
 unfold eKS ixD
 show look (l.map fun p => (Sum.inr p.1 : Key)) (l.map fun p => e p.2) (Sum.inr k) = _
 rw [look_map inr_inj', getK_some h]; rfl
theorem inKI {e : α → D} (l : List (Int × α)) (k : Int) : inD1 (eI k) (eKI e l) = some (.bl (l.lookup k).isSome) := by
 unfold eKI inD1 inD
 show (some (look (l.map fun p => (Sum.inl p.1 : Key)) (l.map fun p => e p.2) (Sum.inl k)).isSome).map D.bl = _
 rw [look_map inl_inj']; simp
theorem lnL {e : α → D} (l : List α) : lenL [eL e l] = some (eI l.length) := by
 show some (D.int ((l.map e).length : Int)) = _
 rw [List.length_map]
theorem lnC (l : List Int) : lenL [eC l] = some (eI l.length) := rfl
theorem lnS (z : Str) : lenL [eS z] = some (eI z.length) := rfl
theorem blsM : ∀ l : List Bool, bls (l.map eB) = some l
 | [] => rfl
 | a :: l => by rw [List.map_cons, bls, blsM l]; rfl
theorem alP (l : List Bool) : allD [eL eB l] = some (eB (l.all id)) := by
 unfold eL allD; dsimp only; rw [blsM]; rfl
theorem anP (l : List Bool) : anyD [eL eB l] = some (eB (l.any id)) := by
 unfold eL anyD; dsimp only; rw [blsM]; rfl
theorem mxP (i j : Int) : max2 [eI i, eI j] = some (eI (max i j)) := by
 show some (D.int (if j > i then j else i)) = _
 rw [show (if j > i then j else i) = max i j by split <;> omega]
def maxL : List Int → Res Int
 | [] => .bad
 | n :: ns => .ok (ns.foldl max n)
def b2i (b : Bool) : Int := if b then 1 else 0
theorem ofL {e : α → D} (l : List α) : (l.map e).map OT.d = l.map (oD e) := by rw [List.map_map]; rfl
theorem liL {e : α → D} (l : List α) : listO [eL e l] = some (oL (oD e) l) := by
 unfold eL oL listO; dsimp only; rw [ofL]
theorem tuL {e : α → D} (l : List α) : tupleD [eL e l] = some (eV e l) := rfl
def cat (a b : List α) : Res (List α) := chk (a.length + b.length ≤ 16777216) (a ++ b)
theorem cat_ok {a b : List α} (h : a.length + b.length ≤ 16777216) : cat a b = .ok (a ++ b) := chk_ok h
theorem caL {e : α → D} {a b : List α} (x : List α) (h : cat a b = .ok x) : addD (eL e a) (eL e b) = some (eL e x) := by
 obtain ⟨hc, rfl⟩ := chk_eq h; clear h; have h := hc
 unfold eL addD; dsimp only
 rw [if_pos (by rw [List.length_map, List.length_map]; exact h), List.map_append]
theorem caO {e : α → D} {a b : List α} (x : List α) (h : cat a b = .ok x) : addO (eL e a) (eL e b) = some (oL (oD e) x) := by
 obtain ⟨hc, rfl⟩ := chk_eq h; clear h; have h := hc
 unfold eL addO; dsimp only
 rw [if_pos (by rw [List.length_map, List.length_map]; exact h), ← List.map_append, ofL]; rfl
def rep (a : List α) (k : Int) : Res (List α) := chk (-(2 ^ 63) ≤ k ∧ k < 2 ^ 63 ∧ a.length * k.toNat ≤ 16777216) (List.replicate k.toNat a).flatten
theorem cutL_map (f : α → β) (l : List α) (lo hi : Option Int) : cutL (l.map f) lo hi = (cutL l lo hi).map f := by
 unfold cutL
 rw [List.length_map, List.map_take, List.map_drop]
theorem slL {e : α → D} (l : List α) (lo hi : Option Int) : slD (eL e l) lo hi = some (eL e (cutL l lo hi)) := by
 unfold eL slD; dsimp only; rw [cutL_map]
theorem slLO {e : α → D} (l : List α) (lo hi : Option Int) : slO (eL e l) lo hi = some (oL (oD e) (cutL l lo hi)) := by
 unfold eL slO; dsimp only; rw [cutL_map, ofL]; rfl
theorem wkL {e : α → D} (l : List α) : itQ (eL e l) = some (l.map e) := rfl
theorem wkV {e : α → D} (l : List α) : itQ (eV e l) = some (l.map e) := rfl
theorem wkS (z : Str) : itQ (eS z) = some (z.cps.toList.map eG) := rfl
def rngI (lo c : Int) (n : Nat) : List Int := (List.range n).map fun (i : Nat) => lo + (i : Int) * c
theorem rngI_map (lo c : Int) (n : Nat) : rngL lo c n = (rngI lo c n).map eI := by
 unfold rngL rngI; rw [List.map_map]; rfl
def rn1 (j : Int) : Res (List Int) := chk (-4000000000 ≤ j ∧ j ≤ 16777216) (rngI 0 1 j.toNat)
def rn2 (i j : Int) : Res (List Int) := chk (-4000000000 ≤ i ∧ i ≤ 4000000000 ∧ j ≤ 4000000000 ∧ -4000000000 ≤ j ∧ j - i ≤ 16777216) (rngI i 1 (j - i).toNat)
def rn3 (i j c : Int) : Res (List Int) := chk (c = -1 ∧ -4000000000 ≤ i ∧ i ≤ 4000000000 ∧ j ≤ 4000000000 ∧ -4000000000 ≤ j ∧ i - j ≤ 16777216) (rngI i (-1) (i - j).toNat)
theorem wr1 {j : Int} (x : List Int) (h : rn1 j = .ok x) : rg1 [eI j] = some (x.map eI) := by
 obtain ⟨hc, rfl⟩ := chk_eq h; clear h; have h := hc
 unfold rg1; dsimp only; rw [if_pos h, rngI_map]
theorem wr2 {i j : Int} (x : List Int) (h : rn2 i j = .ok x) : rg2 [eI i, eI j] = some (x.map eI) := by
 obtain ⟨hc, rfl⟩ := chk_eq h; clear h; have h := hc
 unfold rg2; dsimp only; rw [if_pos h, rngI_map]
theorem wr3 {i j c : Int} (x : List Int) (h : rn3 i j c = .ok x) : rg3 [eI i, eI j, eI c] = some (x.map eI) := by
 obtain ⟨hc, rfl⟩ := chk_eq h; clear h; have h := hc
 unfold rg3; dsimp only; rw [if_pos h, rngI_map]
def snoc (l : List α) (x : α) : Res (List α) := chk (l.length < 16777216) (l ++ [x])
theorem snoc_ok {l : List α} {x : α} (h : l.length < 16777216) : snoc l x = .ok (l ++ [x]) := chk_ok h
variable {T : Tg β} {F : En → Flw} {ρ : En} {i : Nat}
theorem Tg.app {e : α → D} {l : List α} {x : α} {f : En → Res D} {K : List α → Res β} (hs : ρ[i]? = some (some (oL (oD e) l))) (h : f ρ = .ok (e x)) (k : ∀ y, T.Q (K y) (F (ρ.set i (some (oL (oD e) y))))) : T.Q (FL.nb (snoc l x) K) (seqF (FL.app i f) F ρ) := by
 refine Tg.nq fun y hy => ?_
 obtain ⟨hl, rfl⟩ := chk_eq hy
 rw [seq_nx (app_ok hs h (by rw [List.length_map]; exact hl)) rfl]
 have := k (l ++ [x])
 unfold oL at this
 rw [List.map_append] at this
 exact this
theorem Tg.ext {e : α → D} {l m : List α} {f : En → Res D} {K : List α → Res β} (hs : ρ[i]? = some (some (oL (oD e) l))) (h : f ρ = .ok (eL e m)) (k : ∀ y, T.Q (K y) (F (ρ.set i (some (oL (oD e) y))))) : T.Q (FL.nb (cat l m) K) (seqF (FL.ext i f) F ρ) := by
 refine Tg.nq fun y hy => ?_
 obtain ⟨hl, rfl⟩ := chk_eq hy
 rw [seq_nx (ext_ok hs h (by rw [List.length_map, List.length_map]; exact hl)) rfl]
 have := k (l ++ m)
 unfold oL at this
 rw [List.map_append] at this
 rw [ofL]
 exact this
def setI (l : List α) (i : Int) (x : α) : Res (List α) := match ixN l.length i with
 | some j => .ok (l.set j x)
 | none => .bad
theorem setI_in {l : List α} {i : Int} {x : α} (h0 : 0 ≤ i) (h : i < l.length) : setI l i x = .ok (l.set i.toNat x) := by
 unfold setI; rw [ixN_in h0 h]
theorem setI_some {l : List α} {i : Int} {x : α} {y : List α} (h : setI l i x = .ok y) : ∃ j, ixN l.length i = some j ∧ y = l.set j x := by
 unfold setI at h
 split at h
 ·rename_i j e; cases h; exact ⟨j, e, rfl⟩
 ·cases h
theorem Tg.putL {e : α → D} {l : List α} {x : α} {k : Int} {f fi : En → Res D} {K : List α → Res β} (hs : ρ[i]? = some (some (oL (oD e) l))) (h : f ρ = .ok (e x)) (hi : fi ρ = .ok (eI k)) (kk : ∀ y, T.Q (K y) (F (ρ.set i (some (oL (oD e) y))))) : T.Q (FL.nb (setI l k x) K) (seqF (putS i fi f) F ρ) := by
 refine Tg.nq fun y hy => ?_
 obtain ⟨j, hj, rfl⟩ := setI_some hy
 rw [seq_nx (putS_lst hs h hi (by rw [List.length_map]; exact hj)) rfl]
 have := kk (l.set j x)
 unfold oL at this
 rw [List.map_set] at this
 exact this
def putA {κ : Type} [DecidableEq κ] (l : List (κ × α)) (k : κ) (x : α) : List (κ × α) := if k ∈ l.map (·.1) then l.map fun p => if p.1 = k then (p.1, x) else p else l ++ [(k, x)]
def putK {κ : Type} [DecidableEq κ] (l : List (κ × α)) (k : κ) (x : α) : Res (List (κ × α)) := chk (l.length < 16777216) (putA l k x)
theorem kput_map {κ κ' : Type} [DecidableEq κ] [DecidableEq κ'] {f : κ' → κ} (hf : ∀ a b, f a = f b → a = b) {e : α → γ} (k : κ') (x : α) (l : List (κ' × α)) :
  (FL.kput (l.map fun p => f p.1) (l.map fun p => e p.2) (f k) (e x)).1 = (putA l k x).map (fun p => f p.1) ∧ (FL.kput (l.map fun p => f p.1) (l.map fun p => e p.2) (f k) (e x)).2 = (putA l k x).map (fun p => e p.2) := by
 unfold FL.kput putA
 have hm : f k ∈ (l.map fun p => f p.1) ↔ k ∈ l.map (·.1) := by
  rw [List.mem_map, List.mem_map]
  exact ⟨fun ⟨p, a, b⟩ => ⟨p, a, hf _ _ b⟩, fun ⟨p, a, b⟩ => ⟨p, a, by rw [b]⟩⟩
 by_cases h : k ∈ l.map (·.1)
 ·rw [if_pos (hm.mpr h), if_pos h]
  dsimp only
  constructor
  ·rw [List.map_map]
   refine List.map_congr_left fun p _ => ?_
   dsimp only [Function.comp]
   split <;> rfl
  ·clear h hm
   induction l with
   | nil => rfl
   | cons p l ih =>
    rw [List.map_cons, List.map_cons, List.zipWith_cons_cons, ih, List.map_cons, List.map_cons]
    congr 1
    by_cases h : p.1 = k
    ·rw [if_pos h, if_pos (by rw [h])]
    ·rw [if_neg h, if_neg (fun z => h (hf _ _ z))]
 ·rw [if_neg (fun z => h (hm.mp z)), if_neg h]
  dsimp only
  rw [List.map_append, List.map_append]
  exact ⟨rfl, rfl⟩
def setII (l : List (List α)) (i j : Int) (x : α) : Res (List (List α)) := nb (atL l i) fun r => nb (setI r j x) fun r' => setI l i r'
theorem Tg.setLL {e : α → D} {l : List (List α)} {x : α} {k k2 : Int} {f fi fj : En → Res D} {K : List (List α) → Res β} (hs : ρ[i]? = some (some (oL (oL (oD e)) l))) (h : f ρ = .ok (e x)) (hi : fi ρ = .ok (eI k)) (hj : fj ρ = .ok (eI k2)) (kk : ∀ y, T.Q (K y) (F (ρ.set i (some (oL (oL (oD e)) y))))) : T.Q (FL.nb (setII l k k2 x) K) (seqF (FL.setLL i fi fj f) F ρ) := by
 refine Tg.nq fun y hy => ?_
 obtain ⟨r, h1, hy⟩ := nb_eq_ok hy
 obtain ⟨r', h2, hy⟩ := nb_eq_ok hy
 obtain ⟨j, hj1, rfl⟩ := setI_some hy
 obtain ⟨j2, hj2, rfl⟩ := setI_some h2
 have hr : l[j]? = some r := by
  have := atL_some h1
  unfold L2.atI at this
  rw [hj1] at this
  exact this
 have es : FL.setLL i fi fj f ρ = .nx (ρ.set i (some (oL (oL (oD e)) (l.set j (r.set j2 x))))) := by
  unfold FL.setLL
  rw [hs]
  unfold oL
  dsimp only
  rw [h, bindF_ok, hi, bindF_ok]
  dsimp only
  rw [List.length_map, hj1]
  dsimp only
  rw [List.getElem?_map, hr]
  dsimp only [Option.map]
  rw [hj, bindF_ok]
  dsimp only
  rw [List.length_map, hj2]
  dsimp only
  rw [List.map_set, List.map_set]; rfl
 rw [seq_nx es rfl]
 exact kk _
theorem oix2P {e : α → D} {l : List (List α)} {k k2 : Int} {fi fj : En → Res D} (hs : ρ[i]? = some (some (oL (oL (oD e)) l))) (hi : fi ρ = .ok (eI k)) (hj : fj ρ = .ok (eI k2)) : Sm False e (nb (atL l k) fun r => atL r k2) (oix2 i fi fj ρ) := by
 cases h : nb (atL l k) fun r => atL r k2 with
 | ok a =>
  obtain ⟨r, h1, h2⟩ := nb_eq_ok h
  unfold oix2
  rw [hs]
  unfold oL
  dsimp only
  rw [hi, Res.bind_ok]
  dsimp only
  rw [atI_map, atL_some h1]
  dsimp only [Option.map]
  rw [hj, Res.bind_ok]
  dsimp only
  rw [atI_map, atL_some h2]; rfl
 | ex x => exact fun z => z.elim
 | bad => exact trivial
def oget : Option α → Res α
 | some a => .ok a
 | none => .bad
theorem Sm.get {e : α → D} {o : Option α} {r : Res D} (h : r = .ok (eO e o)) : Sm False e (oget o) r := by
 cases o with
 | some a => exact h
 | none => exact trivial
theorem isnO {e : α → D} (h : ∀ a, FL.isN (e a) = some (.bl false)) (x : Option α) : FL.isN (eO e x) = some (.bl x.isNone) := by
 cases x with
 | none => rfl
 | some a => exact h a
theorem isiO {e : α → D} {t : String} (h0 : isiD t .non = some (.bl false)) (h : ∀ a, isiD t (e a) = some (.bl true)) (x : Option α) : isiD t (eO e x) = some (.bl x.isSome) := by
 cases x with
 | none => exact h0
 | some a => exact h a
def mulI (i j : Int) : Res Int := chk ((-(2 ^ 64) < i ∧ i < 2 ^ 64) ∨ (-(2 ^ 64) < j ∧ j < 2 ^ 64)) (i * j)
theorem muI {i j : Int} (x : Int) (h : mulI i j = .ok x) : mulD (eI i) (eI j) = some (eI x) := by
 obtain ⟨hc, rfl⟩ := chk_eq h; clear h; have h := hc
 exact ev_mul h
def modI (i j : Int) : Res Int := chk (0 < j) (i % j)
theorem moI {i j : Int} (x : Int) (h : modI i j = .ok x) : modD (eI i) (eI j) = some (eI x) := by
 obtain ⟨hc, rfl⟩ := chk_eq h; clear h; have h := hc
 exact ev_mod h
def divI (i j : Int) : Res Int := chk (0 < j ∧ j < 1073741824) (i / j)
theorem diI {i j : Int} (x : Int) (h : divI i j = .ok x) : fdivD (eI i) (eI j) = some (eI x) := by
 obtain ⟨hc, rfl⟩ := chk_eq h; clear h; have h := hc
 exact ev_div h
theorem mkLP {ds : List D} (h : ds.length ≤ 16777216 := by exact Nat.le_of_ble_eq_true rfl) : mkL ds = some (.lst ds) := if_pos h
theorem mkTP {ds : List D} (h : ds.length ≤ 16777216 := by exact Nat.le_of_ble_eq_true rfl) : mkT ds = some (.tup ds) := if_pos h
theorem mkOP {ds : List D} (h : ds.length ≤ 16777216 := by exact Nat.le_of_ble_eq_true rfl) : mkO ds = some (.lst (ds.map .d)) := if_pos h
end
end FL
namespace FL
open PySem PySem.Spec PyProof.Rows L2
section
variable {α β γ δ : Type}
structure Odr [DecidableEq α] (k : Nat) (e : α → D) (lt : α → α → Bool) : Prop where
 q : Eqn k e
 al : ∀ a b, PySem.W.alike (py (e a)) (py (e b)) = true
 lt : ∀ a b, PySem.W.dataLt (py (e a)) (py (e b)) = lt a b
 nn : ∀ a, noNon (e a) = true
 ev : ∀ a b, PyData.eqv (py (e a)) (py (e b)) = decide (a = b)
def ltI (a b : Int) : Bool := decide (a < b)
def ltT2 [DecidableEq α] (l1 : α → α → Bool) (l2 : β → β → Bool) (a b : α × β) : Bool := if a.1 = b.1 then l2 a.2 b.2 else l1 a.1 b.1
def ltL [DecidableEq α] (lt : α → α → Bool) : List α → List α → Bool
 | [], [] => false
 | [], _ :: _ => true
 | _ :: _, [] => false
 | a :: l, b :: m => if a = b then ltL lt l m else lt a b
def minB (lt : α → α → Bool) : List α → Res α
 | [] => .bad
 | x :: xs => .ok (xs.foldl (fun a y => if lt y a = true then y else a) x)
end
end FL
namespace FL
open PySem PySem.Spec PyProof.Rows L2
section
variable {α β γ δ σ τ R : Type}
def exb (m : Res α) (h : Exn → Res β) (K : α → Res β) : Res β := match m with
 | .ok a => K a
 | .ex x => h x
 | .bad => .bad
@[simp] theorem exb_ok {a : α} {h : Exn → Res β} {K : α → Res β} : exb (.ok a) h K = K a := rfl
@[simp] theorem exb_ex {x : Exn} {h : Exn → Res β} {K : α → Res β} : exb (.ex x : Res α) h K = h x := rfl
def grd (TT : List Str) (h : Exn → Res β) (x : Exn) : Res β := if (decide (x.c ∈ TT) && x.p.isNone) = true then h x else .bad
def nox (m : Res β) : Res β := match m with
 | .ex _ => .bad
 | m => m
@[simp] theorem nox_ok {a : β} : nox (.ok a) = .ok a := rfl
def trF (h : τ → Exn → Res β) (m : (τ → Exn → Res β) → Res β) : Res β := m h
variable {T : Tg β} {ρ : En} {F A : En → Flw} {i : Nat}
def tgL (w : Prop) (X : En → Prop) (er : R → OT → En → Prop) (N : σ → En → Prop) : Tg (Fl σ R) where
 Q m f := match m with
  | .ok (.nx s) => ∃ ρ, f = .nx ρ ∧ N s ρ
  | .ok (.bk _) => False
  | .ok (.rt r) => ∃ o ρ, f = .rt o ρ ∧ er r o ρ
  | .ex x => w → ∃ ρ, f = .ex x ρ ∧ X ρ
  | .bad => True
 w := w
 X := X
 bad _ := trivial
 exw _ _ h := h
structure IsL (T : Tg (Fl σ R)) (X : En → Prop) (er : R → OT → En → Prop) (N : σ → En → Prop) : Prop where
 rt : ∀ {r o ρ}, er r o ρ → T.Q (.ok (.rt r)) (.rt o ρ)
 nx : ∀ {s ρ}, N s ρ → T.Q (.ok (.nx s)) (.nx ρ)
 X : ∀ {ρ}, X ρ → T.X ρ
theorem tgL.is {w : Prop} {X : En → Prop} {er : R → OT → En → Prop} {N : σ → En → Prop} : IsL (tgL w X er N) X er N := ⟨fun h => ⟨_, _, rfl, h⟩, fun h => ⟨_, rfl, h⟩, fun h => h⟩
def tgE (n : Option Nat) (ΦN : σ → En) (Φ : R → OT) (len : Nat) : Tg (Fl σ R) where
 Q m f := match m with
  | .ok (.nx s) => unE n f = .nx (ΦN s)
  | .ok (.bk _) => False
  | .ok (.rt r) => unE n f = .rt (Φ r) (List.replicate len none)
  | .ex _ => True
  | .bad => True
 w := False
 X := fun _ => True
 bad _ := trivial
 exw _ _ _ := trivial
structure IsE (T : Tg (Fl σ R)) (n : Option Nat) (ΦN : σ → En) (Φ : R → OT) (len : Nat) : Prop where
 nx : ∀ {s ρ}, unE n (.nx ρ) = .nx (ΦN s) → T.Q (.ok (.nx s)) (.nx ρ)
 rt : ∀ {r o ρ}, o = Φ r → (hl : ρ.length = len := by rfl) → T.Q (.ok (.rt r)) (.rt o ρ)
 X : ∀ {ρ}, T.X ρ
theorem tgE.is {n : Option Nat} {ΦN : σ → En} {Φ : R → OT} {len : Nat} : IsE (tgE n ΦN Φ len) n ΦN Φ len := ⟨fun h => h, fun h hl => by
 subst h hl
 cases n <;> rfl, trivial⟩
theorem Tg.suite {T : Tg (Fl σ R)} {X : En → Prop} {er : R → OT → En → Prop} {N : σ → En → Prop} (is : IsL T X er N) {n : Option Nat} {ΦN : σ → En} {Φ : R → OT} {len : Nat} {m : Res (Fl σ R)} {g : Addr → Flw} (hm : ∀ a, ∀ T' : Tg (Fl σ R), IsE T' n ΦN Φ len → T'.Q m (g a)) (hN : ∀ s, N s (ΦN s)) (hR : ∀ r, er r (Φ r) (List.replicate len none)) :
  T.Q (nox m) (allA fun a => unE n (g a)) := by
 have hm := fun a => hm a _ tgE.is
 cases m with
 | ok o => cases o with
  | nx s =>
   rw [allA_of (f := fun a => unE n (g a)) (r := .nx (ΦN s)) fun a => hm a]
   exact is.nx (hN s)
  | bk s => exact (hm 0).elim
  | rt r =>
   rw [allA_of (f := fun a => unE n (g a)) (r := .rt (Φ r) (List.replicate len none)) fun a => hm a]
   exact is.rt (hR r)
 | ex x => exact T.bad _
 | bad => exact T.bad _
theorem Sm.met {Ty : String} {g : List D → Option D} {f : En → Res D} {fs : En → Res (List D)} {d : D} {ds : List D} {e : α → D} {m : Res α} (h : f ρ = .ok d) (hs : fs ρ = .ok ds) (ht : tyD Ty d = true) (hg : ∀ a, m = .ok a → g (d :: ds) = some (e a)) : Sm False e m (met Ty g f fs ρ) := by
 unfold FL.met
 rw [h, Res.bind_ok, if_pos ht, hs, Res.bind_ok]
 cases m with
 | ok a => rw [hg a rfl]; rfl
 | ex x => exact fun z => z.elim
 | bad => trivial
theorem metP {Ty : String} {g : List D → Option D} {f : En → Res D} {fs : En → Res (List D)} {d : D} {ds : List D} {y : D} (h : f ρ = .ok d) (hs : fs ρ = .ok ds) (ht : tyD Ty d = true) (hg : g (d :: ds) = some y) : met Ty g f fs ρ = .ok y := by
 unfold FL.met
 rw [h, Res.bind_ok, if_pos ht, hs, Res.bind_ok, hg]; rfl
def idxA [DecidableEq α] (l : List α) (a : α) : Res Int := if a ∈ l then .ok ((l.idxOf a : Nat) : Int) else .bad
theorem flats_map {e : α → D} (fl : ∀ a, flat (e a) = true) (l : List α) : (l.map e).all flat = true := List.all_eq_true.mpr fun d hd => by
 obtain ⟨a, _, rfl⟩ := List.mem_map.mp hd
 exact fl a
theorem cntP [DecidableEq α] {k : Nat} {e : α → D} (h : Eqn k e) (fl : ∀ a, flat (e a) = true) (l : List α) (a : α) : cntL [eL e l, e a] = some (eI (l.count a)) := by
 unfold cntL eL
 dsimp only
 rw [fl a, flats_map fl l, if_pos (by rfl), List.countP_map]
 congr 2
 rw [List.count_eq_countP]
 congr 2
 funext b
 show eqv (e b) (e a) = (b == a)
 rw [h.eq]; rfl
theorem idxN_map [DecidableEq α] {k : Nat} {e : α → D} (h : Eqn k e) (a : α) : ∀ l : List α, a ∈ l → idxN (e a) (l.map e) = some (l.idxOf a) := by
 intro l
 induction l with
 | nil => intro h; cases h
 | cons b l ih =>
  intro hm
  rw [List.map_cons, idxN, h.eq, List.idxOf_cons]
  by_cases hb : b = a
  ·rw [decide_eq_true hb, if_pos rfl]
   simp [hb]
  ·rw [decide_eq_false hb, if_neg Bool.false_ne_true, ih ((List.mem_cons.mp hm).resolve_left fun z => hb z.symm), show (b == a) = false by rw [beq_eq_false_iff_ne]; exact hb]; rfl
theorem idxP [DecidableEq α] {k : Nat} {e : α → D} (h : Eqn k e) (fl : ∀ a, flat (e a) = true) (l : List α) (a : α) : ∀ x, idxA l a = .ok x → idxL [eL e l, e a] = some (eI x) := by
 intro x hx
 unfold idxA at hx
 split at hx
 ·rename_i hm
  cases hx
  unfold idxL eL
  dsimp only
  rw [fl a, flats_map fl l, if_pos (by rfl), idxN_map h a l hm]; rfl
 ·cases hx
end
end FL
namespace FL
open PySem PySem.Spec PyProof.Rows L2
section
variable {α β γ δ σ τ R : Type} {T : Tg β} {ρ : En} {F A : En → Flw} {s : Nat}
theorem appP {e : α → D} {l : List α} {x : α} (l' : List α) (h : snoc l x = .ok l') : appM (l.map (oD e)) [e x] = some (l'.map (oD e)) := by
 obtain ⟨hc, rfl⟩ := chk_eq h
 show (if (l.map (oD e)).length < 16777216 then _ else _) = _
 rw [List.length_map, if_pos hc, List.map_append]; rfl
theorem Tg.get {o : Option α} {K : α → Res β} {f : Flw} (k : ∀ a, o = some a → T.Q (K a) f) : T.Q (FL.nb (oget o) K) f := by
 cases o with
 | none => exact T.bad _
 | some a => exact k a rfl
def oT2 (f : α → OT) (g : β → OT) : α × β → OT := fun p => .tup [f p.1, g p.2]
theorem zT2 {f : α → OT} {g : β → OT} {e1 : α → D} {e2 : β → D} (h1 : ∀ a, fz (f a) = e1 a) (h2 : ∀ a, fz (g a) = e2 a) (p : α × β) : fz (oT2 f g p) = eT2 e1 e2 p := by
 obtain ⟨a, b⟩ := p
 show D.tup [fz (f a), fz (g b)] = D.tup [e1 a, e2 b]
 rw [h1, h2]
end
end FL
namespace FL
open PySem PySem.Spec PyProof.Rows L2
section
variable {α β γ δ σ τ R : Type}
section
variable {T : Tg β} {ρ : En} {F A : En → Flw} {i : Nat}
end
def PathOK (ρ : En) (o : OT) (f : En → Res (List Nat)) (a : OT) (back : OT → OT) : Prop := ∃ p, f ρ = .ok p ∧ o.sub p = some a ∧ ∀ a', o.put p a' = back a'
variable {ρ : En} {s : Nat} {o : OT} {f : En → Res (List Nat)} {fi : En → Res D} {back : OT → OT}
theorem pthH (hs : ρ[s]? = some (some o)) : PathOK ρ o (hereP s) o id := ⟨[], by unfold hereP; rw [hs], rfl, fun a' => rfl⟩
theorem pthT {l : List OT} {i : Int} {j : Nat} {x : OT} (hs : ρ[s]? = some (some o)) (h : PathOK ρ o f (.tup l) back) (hi : fi ρ = .ok (eI i)) (hj : ixN l.length i = some j) (hx : l[j]? = some x) : PathOK ρ o (ixP s f fi) x (fun a' => back (.tup (l.set j a'))) := by
 obtain ⟨p, h1, h2, h3⟩ := h
 refine ⟨p ++ [j], by unfold ixP stepP; rw [h1, Res.bind_ok, hi, Res.bind_ok, hs]; simp only [h2, hj], ?_, fun a' => ?_⟩
 ·rw [sub_app h2, OT.sub]
  simp only [kids, hx]
  rfl
 ·rw [put_app h2, OT.put]
  simp only [kids, hx]
  rw [h3]; rfl
structure IsM (T : Tg (α × σ)) (NB : α × σ → En → Prop) : Prop where
 nx : ∀ {p ρ}, NB p ρ → T.Q (.ok p) (.nx ρ)
 ct : ∀ {p ρ}, NB p ρ → T.Q (.ok p) (.ct ρ)
 X : ∀ {ρ}, T.X ρ
theorem Tg.mutP {T : Tg β} {F : En → Flw} {eo : α → OT} {l : List α} {eS : σ → OT} {st : List α → Res σ} {M : List OT → List D → Option (List OT)} {m : Res (List α)} {fs : En → Res (List D)} {ds : List D} {K : σ → Res β} (hs : ρ[s]? = some (some o)) (hp : PathOK ρ o f (oL eo l) back) (ha : fs ρ = .ok ds)
  (hM : ∀ l', m = .ok l' → M (l.map eo) ds = some (l'.map eo)) (hb : ∀ l' s', st l' = .ok s' → back (oL eo l') = eS s') (k : ∀ y, T.Q (K y) (F (ρ.set s (some (eS y))))) : T.Q (FL.nb m fun l' => FL.nb (st l') K) (seqF (mutF s M f fs) F ρ) := by
 obtain ⟨p, h1, h2, h3⟩ := hp
 cases m with
 | bad => exact T.bad _
 | ex c => exact T.bad _
 | ok l' =>
  show T.Q (FL.nb (st l') K) _
  cases e : st l' with
  | bad => exact T.bad _
  | ex c => exact T.bad _
  | ok s' =>
   have := k s'
   rw [← hb l' s' e, ← h3] at this
   unfold seqF mutF
   rw [h1, bindF_ok, hs]
   dsimp only
   rw [h2]
   unfold oL
   dsimp only
   rw [ha, bindF_ok, hM l' rfl]
   exact this
end
end FL
namespace FL
open PySem PySem.Spec PyProof.Rows L2
section
variable {α β γ δ σ τ R : Type} {ρ ρ1 ρ2 : En}
theorem xF_ok {f : En → Res D} {d : D} (h : f ρ = .ok d) : xF f ρ = .ok (.d d) ρ := by unfold xF; rw [h]
theorem xO_ok {f : En → Res OT} {t : OT} (h : f ρ = .ok t) : xO f ρ = .ok t ρ := by unfold xO; rw [h]
theorem mvX_ok {i : Nat} {t : OT} (h : ρ[i]? = some (some t)) : mvX i ρ = .ok t (ρ.set i none) := by unfold mvX; rw [h]
def OwnOK (fs : En → ResA) (ρ : En) (ts : List OT) (ρ2 : En) : Prop := ∃ as, fs ρ = .ok as ρ2 ∧ ownTs as = some ts
theorem oNilX : OwnOK nilX ρ [] ρ := ⟨[], rfl, rfl⟩
theorem oConsX {f : En → ResX} {fs : En → ResA} {t : OT} {ts : List OT} (h : f ρ = .ok t ρ1) (h2 : OwnOK fs ρ1 ts ρ2) : OwnOK (consX f fs) ρ (t :: ts) ρ2 := by
 obtain ⟨as, a, b⟩ := h2
 exact ⟨.own t :: as, by unfold consX; rw [h]; dsimp only; rw [a]; rfl, by rw [ownTs, b]; rfl⟩
def ArgOK (fs : En → ResA) (ρ : En) (m : List Bool) (ts : List OT) (ρ2 : En) (fin : List OT → En → En) : Prop := ∃ as, fs ρ = .ok as ρ2 ∧ maskOf as = m ∧ argTs as = some ts ∧ ∀ outs, outs.length = m.count true → ∃ l, lents as outs = some l ∧ ∀ ρ', setAll l ρ' = fin outs ρ'
theorem aNil : ArgOK nilX ρ [] [] ρ (fun _ ρ' => ρ') := ⟨[], rfl, rfl, rfl, fun outs h => by
 cases outs with
 | nil => exact ⟨[], rfl, fun _ => rfl⟩
 | cons _ _ => cases h⟩
theorem aOwn {f : En → ResX} {fs : En → ResA} {t : OT} {ts : List OT} {m : List Bool} {fin : List OT → En → En} (h : f ρ = .ok t ρ1) (h2 : ArgOK fs ρ1 m ts ρ2 fin) : ArgOK (consX f fs) ρ (false :: m) (t :: ts) ρ2 fin := by
 obtain ⟨as, a, b, c, d⟩ := h2
 refine ⟨.own t :: as, by unfold consX; rw [h]; dsimp only; rw [a]; rfl, by rw [maskOf, b], by rw [argTs, c]; rfl, fun outs ho => d outs (by simpa using ho)⟩
def finC (s : Nat) (back : OT → OT) (fin : List OT → En → En) : List OT → En → En
 | o :: outs, ρ' => fin outs (ρ'.set s (some (back o)))
 | [], ρ' => ρ'
theorem aLend {s : Nat} {fp : En → Res (List Nat)} {fs : En → ResA} {o u : OT} {back : OT → OT} {ts : List OT} {m : List Bool} {fin : List OT → En → En} (hs : ρ[s]? = some (some o)) (hp : PathOK ρ o fp u back) (h2 : ArgOK fs (ρ.set s none) m ts ρ2 fin) :
  ArgOK (lendX s fp fs) ρ (true :: m) (u :: ts) ρ2 (finC s back fin) := by
 obtain ⟨as, a, b, c, d⟩ := h2
 obtain ⟨p, p1, p2, p3⟩ := hp
 refine ⟨.lent s o p :: as, by unfold lendX; rw [p1]; dsimp only; rw [hs]; dsimp only; rw [p2]; dsimp only; rw [a]; rfl, by rw [maskOf, b], by rw [argTs, c, argT, p2]; rfl, fun outs ho => ?_⟩
 cases outs with
 | nil => simp at ho
 | cons t outs =>
  obtain ⟨l, e, k⟩ := d outs (by simpa using ho)
  refine ⟨(s, o.put p t) :: l, by rw [lents, e]; rfl, fun ρ' => ?_⟩
  rw [setAll, finC, k, p3]
theorem callG_ok {m : List Bool} {F : List OT → ResG} {fs : En → ResA} {ts outs : List OT} {fin : List OT → En → En} {r : OT} (h : ArgOK fs ρ m ts ρ2 fin) (hF : F ts = .ok r outs) (hl : outs.length = m.count true) : callG m F fs ρ = .ok r (fin outs ρ2) := by
 obtain ⟨as, a, b, c, d⟩ := h
 obtain ⟨l, e, k⟩ := d outs hl
 unfold callG
 rw [a, callA, if_pos b, c]
 dsimp only
 rw [hF, backG, e]
 dsimp only
 rw [k]
theorem nxG_ok {F : List OT → ResG} {ts outs : List OT} {r : OT} (h : F ts = .ok r outs) : nxG F ts = .ok r outs := by unfold nxG; rw [h]
def SmG (w : Prop) (eo : R → OT) (es : R → List OT) (es0 : List OT) (m : Res R) (r : ResG) : Prop := match m with
 | .ok a => r = .ok (eo a) (es a)
 | .ex x => w → r = .ex x es0
 | .bad => True
structure IsG (T : Tg R) (er : R → OT → En → Prop) (m : List Bool) (es0 : List OT) : Prop where
 rt : ∀ {r o ρ}, er r o ρ → T.Q (.ok r) (.rt o ρ)
 nx : ∀ {r ρ}, er r (.d .non) ρ → T.Q (.ok r) (.nx ρ)
 X : ∀ {ρ}, outsG 0 m ρ = some es0 → T.X ρ
theorem SmG.run {w : Prop} {eo : R → OT} {es : R → List OT} {es0 : List OT} {er : R → OT → En → Prop} {mr : Res R} {a n : Nat} {m : List Bool} {F : En → Flw} {ts : List OT} (hl : ts.length = a) (hm : m.length = a) (hr : argsG n ts = ρ) (he : ∀ r o ρ', er r o ρ' → o = eo r ∧ outsG 0 m ρ' = some (es r))
  (h : ∀ T : Tg R, IsG T er m es0 → T.Q mr (F ρ)) : SmG w eo es es0 mr (runG a n m F ts) := by
 have h' := h (tgR w (fun ρ => outsG 0 m ρ = some es0) er) ⟨fun z => tgR.rt z, fun z => tgR.nx z, fun z => z⟩
 unfold runG
 rw [if_pos ⟨hl, hm⟩, hr]
 cases mr with
 | bad => exact trivial
 | ex x =>
  intro hw
  obtain ⟨ρ', e, hx⟩ := h' hw
  rw [e, finG, hx]
 | ok r =>
  obtain ⟨ρ', h' | ⟨o, e, hx⟩⟩ := h'
  ·obtain ⟨e, hx⟩ := h'
   obtain ⟨e1, e2⟩ := he r _ ρ' hx
   rw [e, finG, e2]
   show ResG.ok _ _ = _
   rw [e1]
  ·obtain ⟨e1, e2⟩ := he r _ ρ' hx
   rw [e, finG, e2]
   show ResG.ok _ _ = _
   rw [e1]
def Smx (m : Res α) (r : ResX) (eo : α → OT) (ρe : α → En) : Prop := ∀ a, m = .ok a → r = .ok (eo a) (ρe a)
theorem Smx.callG {m : List Bool} {F : List OT → ResG} {fs : En → ResA} {ts : List OT} {fin : List OT → En → En} {eo : R → OT} {es : R → List OT} {es0 : List OT} {w : Prop} {mr : Res R} (h : ArgOK fs ρ m ts ρ2 fin) (hF : SmG w eo es es0 mr (F ts)) (hl : ∀ a, (es a).length = m.count true) : Smx mr (FL.callG m F fs ρ) eo (fun a => fin (es a) ρ2) := fun a e => by
 subst e
 exact callG_ok h hF (hl a)
theorem SmG.nx {F : List OT → ResG} {ts : List OT} {eo : R → OT} {es : R → List OT} {es0 : List OT} {w : Prop} {mr : Res R} (hF : SmG w eo es es0 mr (F ts)) : SmG False eo es es0 mr (nxG F ts) := by
 cases mr with
 | ok a => exact nxG_ok hF
 | ex x => exact fun z => z.elim
 | bad => exact trivial
variable {T : Tg β} {m : Res β} {F A : En → Flw} {i : Nat} {f : En → ResX} {t : OT}
theorem Tg.nbX {m1 : Res α} {r1 : ResX} {eo : α → OT} {ρe : α → En} {K : α → Res β} {fl : Flw} (h : Smx m1 r1 eo ρe) (k : ∀ a, r1 = .ok (eo a) (ρe a) → T.Q (K a) fl) : T.Q (FL.nb m1 K) fl := by
 cases m1 with
 | ok a => exact k a (h a rfl)
 | ex x => exact T.bad _
 | bad => exact T.bad _
theorem Tg.sretX (h : f ρ = .ok t ρ1) (q : T.Q m (.rt t ρ1)) : T.Q m (seqF (FL.retX f) F ρ) := by
 have e : FL.retX f ρ = .rt t ρ1 := by unfold FL.retX; rw [h]; rfl
 unfold seqF; rw [e]; exact q
theorem Tg.drpX (h : f ρ = .ok t ρ1) (k : T.Q m (F ρ1)) : T.Q m (seqF (FL.drpX f) F ρ) := by
 have e : FL.drpX f ρ = .nx ρ1 := by unfold FL.drpX; rw [h]; rfl
 unfold seqF; rw [e]; exact k
theorem Tg.asgX {d : D} (h : f ρ = .ok t ρ1) (z : FL.fz t = d) (k : T.Q m (F (ρ1.set i (some (.d d))))) : T.Q m (seqF (FL.asgX i f) F ρ) := by
 have e : FL.asgX i f ρ = .nx (ρ1.set i (some (.d d))) := by unfold FL.asgX; rw [h, ← z]; rfl
 unfold seqF; rw [e]; exact k
theorem disX_ok {g : List OT → Option OT} {fs : En → ResA} {ts : List OT} (h : OwnOK fs ρ ts ρ2) (hg : g ts = some t) : disX g fs ρ = .ok t ρ2 := by
 obtain ⟨as, a, b⟩ := h
 unfold disX
 rw [a, mkX, b]
 dsimp only
 rw [hg]
theorem tupO_ok {ts : List OT} (h : ts.length ≤ 16777216 := by simp) : tupO ts = some (.tup ts) := if_pos h
theorem op2Y_ok {g : D → D → Option D} {fa fb : En → ResX} {u : OT} {d : D} (h : fa ρ = .ok t ρ1) (h2 : fb ρ1 = .ok u ρ2) (hg : g (fz t) (fz u) = some d) : op2Y g fa fb ρ = .ok (.d d) ρ2 := by
 unfold op2Y
 rw [h]; dsimp only
 rw [h2]; dsimp only
 rw [hg]
theorem callD_ok {g : List D → Res OT} {fs : En → ResA} {ts : List OT} (h : OwnOK fs ρ ts ρ2) (hg : g (fzs ts) = .ok t) : callD g fs ρ = .ok t ρ2 := by
 obtain ⟨as, a, b⟩ := h
 unfold callD
 rw [a, callY, b]
 dsimp only
 rw [hg]
theorem mapX_ok {g : D → En → Res D} {d : D} (h : f ρ = .ok t ρ1) (hg : g (fz t) ρ1 = .ok d) : mapX f g ρ = .ok (.d d) ρ1 := by
 unfold mapX
 rw [h]; dsimp only
 rw [hg]
theorem op2X_ok {g : D → D → Option D} {fb : En → Res D} {x y z : D} (h : fb ρ = .ok y) (hg : g x y = some z) : op2X g fb x ρ = .ok z := by
 unfold op2X
 rw [h, Res.bind_ok, hg]; rfl
theorem Smx.map {g : D → En → Res D} {e : α → D} {mr : Res α} (h : f ρ = .ok t ρ1) (hg : ∀ a, mr = .ok a → g (fz t) ρ1 = .ok (e a)) : Smx mr (mapX f g ρ) (oD e) (fun _ => ρ1) := fun a q => mapX_ok h (hg a q)
theorem mapX_z {g : D → En → Res D} {x d : D} (h : f ρ = .ok t ρ1) (z : fz t = x) (hg : g x ρ1 = .ok d) : mapX f g ρ = .ok (.d d) ρ1 := mapX_ok h (by rw [z]; exact hg)
theorem Smx.mapz {g : D → En → Res D} {x : D} {e : α → D} {mr : Res α} (h : f ρ = .ok t ρ1) (z : fz t = x) (hg : ∀ a, mr = .ok a → g x ρ1 = .ok (e a)) : Smx mr (mapX f g ρ) (oD e) (fun _ => ρ1) := fun a q => mapX_z h z (hg a q)
theorem op2Y_z {g : D → D → Option D} {fa fb : En → ResX} {u : OT} {x y d : D} (h : fa ρ = .ok t ρ1) (z : fz t = x) (h2 : fb ρ1 = .ok u ρ2) (z2 : fz u = y) (hg : g x y = some d) : op2Y g fa fb ρ = .ok (.d d) ρ2 := op2Y_ok h h2 (by rw [z, z2]; exact hg)
theorem Smx.op2z {g : D → D → Option D} {fa fb : En → ResX} {u : OT} {x y : D} {e : α → D} {mr : Res α} (h : fa ρ = .ok t ρ1) (z : fz t = x) (h2 : fb ρ1 = .ok u ρ2) (z2 : fz u = y) (hg : ∀ a, mr = .ok a → g x y = some (e a)) : Smx mr (op2Y g fa fb ρ) (oD e) (fun _ => ρ2) := fun a q => op2Y_z h z h2 z2 (hg a q)
theorem Smx.cv {mr : Res α} {r : ResX} {eo eo' : α → OT} {ρe ρe' : α → En} (h : Smx mr r eo ρe) (h1 : ∀ a, eo a = eo' a) (h2 : ∀ a, ρe a = ρe' a) : Smx mr r eo' ρe' := fun a q => by rw [← h1, ← h2]; exact h a q
theorem own_mask : ∀ {as : List ArgT} {ts : List OT}, ownTs as = some ts → (maskOf as).all (fun b => !b) = true ∧ argTs as = some ts ∧ lents as [] = some []
 | [], ts, h => by cases h; exact ⟨rfl, rfl, rfl⟩
 | .own t :: as, ts, h => by
  obtain ⟨ts', e, rfl⟩ := Option.map_eq_some_iff.mp h
  obtain ⟨a, b, c⟩ := own_mask e
  exact ⟨by rw [maskOf]; simpa using a, by rw [argTs, b]; rfl, by rw [lents]; exact c⟩
 | .lent _ _ _ :: _, _, h => nomatch h
theorem mtT_ok {T : String} {s : Nat} {M : OT → List OT → Option (OT × OT)} {fp : En → Res (List Nat)} {fs : En → ResA} {o u r u' : OT} {back : OT → OT} {ts : List OT} (hs : ρ[s]? = some (some o)) (hp : PathOK ρ o fp u back) (ht : tyO T u = true) (ha : OwnOK fs (ρ.set s none) ts ρ2) (hM : M u ts = some (r, u')) : mtT T s M fp fs ρ = .ok r (ρ2.set s (some (back u'))) := by
 obtain ⟨p, p1, p2, p3⟩ := hp
 obtain ⟨as, a, b⟩ := ha
 obtain ⟨c1, c2, c3⟩ := own_mask b
 unfold mtT
 rw [p1]
 dsimp only
 rw [hs]
 dsimp only
 rw [p2]
 dsimp only
 rw [if_pos ht, a, tailX, mtB]
 rw [if_pos (show (maskOf (.lent s o p :: as)).tail.all (fun b => !b) = true from c1), callA, if_pos rfl]
 rw [show argTs (.lent s o p :: as) = some (u :: ts) by rw [argTs, argT, p2, c2]; rfl]
 dsimp only
 rw [methG, hM, backG]
 rw [show lents (.lent s o p :: as) [u'] = some [(s, o.put p u')] by rw [lents, c3]; rfl]
 dsimp only
 rw [setAll, setAll, p3]
theorem Smx.mt {T : String} {s : Nat} {M : OT → List OT → Option (OT × OT)} {fp : En → Res (List Nat)} {fs : En → ResA} {o u : OT} {back : OT → OT} {ts : List OT} {eo : α → OT} {u' : α → OT} {mr : Res α} (hs : ρ[s]? = some (some o)) (hp : PathOK ρ o fp u back) (ht : tyO T u = true) (ha : OwnOK fs (ρ.set s none) ts ρ2) (hM : ∀ a, mr = .ok a → M u ts = some (eo a, u' a)) :
  Smx mr (mtT T s M fp fs ρ) eo (fun a => ρ2.set s (some (back (u' a)))) := fun a q => mtT_ok hs hp ht ha (hM a q)
def popL (l : List α) : Res (α × List α) := match l.getLast? with
 | some x => .ok (x, l.dropLast)
 | none => .bad
theorem popL_ok {l : List α} {x : α} : popL (l ++ [x]) = .ok (x, l) := by unfold popL; simp
theorem popG_ok {eo : α → OT} {l : List α} (q : α × List α) (h : popL l = .ok q) : popG (oL eo l) [] = some (eo q.1, oL eo q.2) := by
 unfold popL at h
 cases e : l.getLast? with
 | none => rw [e] at h; cases h
 | some x =>
  rw [e] at h; cases h
  unfold oL popG
  dsimp only
  rw [List.getLast?_map, e, List.map_dropLast]; rfl
def popI (l : List α) (i : Int) : Res (α × List α) := match ixN l.length i with
 | some k => match l[k]? with
  | some x => chk (-(2 ^ 63) ≤ i ∧ i < 2 ^ 63) (x, l.take k ++ l.drop (k + 1))
  | none => .bad
 | none => .bad
theorem popAtG_ok {eo : α → OT} {l : List α} {i : Int} (q : α × List α) (h : popI l i = .ok q) : popAtG (oL eo l) [.d (eI i)] = some (eo q.1, oL eo q.2) := by
 unfold popI at h
 cases e : ixN l.length i with
 | none => rw [e] at h; cases h
 | some k =>
  rw [e] at h
  dsimp only at h
  cases e2 : l[k]? with
  | none => rw [e2] at h; cases h
  | some x =>
   rw [e2] at h
   obtain ⟨h1, rfl⟩ := chk_eq h
   show (if _ then _ else _) = _
   rw [if_pos h1, List.length_map, e]
   show ((l.map eo)[k]?).map _ = _
   rw [List.getElem?_map, e2, ← List.map_take, ← List.map_drop, ← List.map_append]; rfl
theorem nilPE : nilP ρ = .ok ([], []) := rfl
theorem consPE {fk fv : En → Res D} {fr : En → Res (List D × List D)} {k v : D} {ks xs : List D} (hk : fk ρ = .ok k) (hv : fv ρ = .ok v) (hr : fr ρ = .ok (ks, xs)) : consP fk fv fr ρ = .ok (k :: ks, v :: xs) := by
 unfold consP; rw [hk, Res.bind_ok, hv, Res.bind_ok, hr]; rfl
theorem dispE {fr : En → Res (List D × List D)} {q : List D × List D} {o : OT} (h : fr ρ = .ok q) (hd : dispO q = some o) : disp fr ρ = .ok o := by
 unfold disp; rw [h, Res.bind_ok, hd]; rfl
end
end FL
namespace FL
open PySem PySem.Spec PyProof.Rows L2
section
variable {α β γ σ R : Type} {ρ : En}
variable {T : Tg β} {A F : En → Flw}
mutual
theorem plain_mono : ∀ {n : Nat} {d : D}, plain n d = true → plain (n + 1) d = true
 | n, .non, _ => rfl
 | n, .bl _, _ => rfl
 | n, .int _, _ => rfl
 | n, .str _, _ => rfl
 | n, .lst xs, h => by
  unfold plain at h ⊢
  exact plains_mono h
 | n, .tup xs, h => by
  unfold plain at h ⊢
  exact plains_mono h
 | n, .dK _ _, h => by simp [plain] at h
 | n, .dT _ _, h => by simp [plain] at h
 | n, .ins _ _ _, h => by simp [plain] at h
 | n, .scr _, h => by simp [plain] at h
 | n, .exn _, h => by simp [plain] at h
theorem plains_mono : ∀ {n : Nat} {ds : List D}, plains n ds = true → plains (n + 1) ds = true
 | 0, _, h => by simp [plains] at h
 | n + 1, [], _ => rfl
 | n + 1, d :: ds, h => by
  unfold plains at h ⊢
  rw [Bool.and_eq_true] at h ⊢
  exact ⟨plain_mono h.1, plains_mono h.2⟩
end
structure DQ (k : Nat) (e : α → D) (f : α → α → Bool) : Prop where
 q : ∀ n, k ≤ n → ∀ a b, deq n (e a) (e b) = some (f a b)
def eqB [DecidableEq α] (a b : α) : Bool := decide (a = b)
theorem deq_plain {n : Nat} {x y : D} (h : plain 60 x = true) (h2 : plain 60 y = true) : deq n x y = some (eqv x y) := by
 cases n <;> (unfold deq; rw [if_pos (by rw [h, h2]; rfl)])
theorem DQ.of [DecidableEq α] {k : Nat} {e : α → D} (h : Eqn k e) (hk : k ≤ 60 := by decide) : DQ 0 e eqB := ⟨fun n _ a b => by
 rw [deq_plain (h.pl 60 a hk) (h.pl 60 b hk), h.eq]; rfl⟩
theorem DQ.pl {k : Nat} {e : α → D} {f : α → α → Bool} (h : DQ k e f) {a b : α} (p : plain 60 (e a) = true) (q : plain 60 (e b) = true) : eqv (e a) (e b) = f a b := by
 have := h.q k (Nat.le_refl _) a b
 rw [deq_plain p q] at this
 exact Option.some.inj this
end
end FL
namespace FL
open PySem PySem.Spec PyProof.Rows L2
section
variable {α β γ : Type} {ρ : En}
def eD (d : D) : D := d
def decS : D → Res Str
 | .str z => .ok z
 | _ => .bad
def decs (q : D → Res α) : List D → Res (List α)
 | [] => .ok []
 | d :: ds => nb (q d) fun a => nb (decs q ds) fun l => .ok (a :: l)
def decL (q : D → Res α) : D → Res (List α)
 | .lst ds => decs q ds
 | _ => .bad
theorem decS_ok {d : D} {a : Str} (h : decS d = .ok a) : d = eS a := by
 unfold decS at h
 split at h
 ·cases h; rfl
 ·cases h
theorem decs_ok {q : D → Res α} {e : α → D} (hq : ∀ {d a}, q d = .ok a → d = e a) : ∀ {ds : List D} {l : List α}, decs q ds = .ok l → ds = l.map e
 | [], l, h => by cases h; rfl
 | d :: ds, l, h => by
  unfold decs at h
  obtain ⟨a, h1, h2⟩ := nb_eq_ok h
  obtain ⟨m, h3, h4⟩ := nb_eq_ok h2
  cases h4
  rw [List.map_cons, ← hq h1, ← decs_ok hq h3]
theorem decL_ok {q : D → Res α} {e : α → D} (hq : ∀ {d a}, q d = .ok a → d = e a) {d : D} {l : List α} (h : decL q d = .ok l) : d = eL e l := by
 unfold decL at h
 split at h
 ·rw [decs_ok hq h]; rfl
 ·cases h
def rb : Option D → Res Bool
 | some (.bl b) => .ok b
 | _ => .bad
def ri : Option D → Res Int
 | some (.int i) => .ok i
 | _ => .bad
theorem Sm.dec {e : α → D} {m : Res α} {f : En → Res D} {d : D} (h : f ρ = .ok d) (hm : ∀ a, m = .ok a → d = e a) : Sm False e m (f ρ) := by
 cases m with
 | ok a =>
  show f ρ = _
  rw [h, hm a rfl]
 | ex x => exact fun z => z.elim
 | bad => exact trivial
def dictA {κ : Type} [DecidableEq κ] (l : List (κ × α)) : List (κ × α) := l.foldl (fun acc p => putA acc p.1 p.2) []
theorem pairsK_map {κ : Type} [DecidableEq κ] {c : κ → Key} {ek : κ → D} (hk : ∀ a, keyOf (ek a) = some (c a)) (hc : ∀ a b, c a = c b → a = b) {e : α → D} : ∀ (l acc : List (κ × α)), pairsK (l.map (eT2 ek e)) (acc.map fun p => c p.1) (acc.map fun p => e p.2) = some (((l.foldl (fun acc p => putA acc p.1 p.2) acc).map fun p => c p.1), ((l.foldl (fun acc p => putA acc p.1 p.2) acc).map fun p => e p.2))
 | [], acc => rfl
 | p :: l, acc => by
  obtain ⟨h1, h2⟩ := kput_map (f := c) hc (e := e) p.1 p.2 acc
  rw [List.map_cons]
  show ((keyOf (ek p.1)).bind fun k => pairsK (l.map (eT2 ek e)) (FL.kput _ _ k (e p.2)).1 (FL.kput _ _ k (e p.2)).2) = _
  rw [hk, Option.bind_some, h1, h2, pairsK_map hk hc l]
  rfl
theorem dicI {e : α → D} (l : List (Int × α)) : dictO [eL (eT2 eI e) l] = some (oKI (oD e) (dictA l)) := by
 have h := pairsK_map (c := fun z : Int => (Sum.inl z : Key)) (ek := eI) (fun _ => rfl) inl_inj' (e := e) l []
 unfold eL dictO
 dsimp only
 rw [show pairsK (l.map (eT2 eI e)) [] [] = _ from h, Option.map_some, List.map_map]
 rfl
variable {T : Tg β} {F : En → Flw} {i : Nat}
end
section
variable {α β γ : Type}
end
end FL
namespace FL
open PySem PySem.Spec PyProof.Rows L2
section
variable {α β γ : Type} {ρ : En}
def eW (e : α → D) (p : Str × List α) : D := .tup (.str p.1 :: p.2.map e)
theorem Str_beq (a b : Str) : (a == b) = decide (a = b) := by
 have h := EqnS.eq a b
 simpa only [eqv] using h
theorem EqnW [DecidableEq α] {k : Nat} {e : α → D} (h : Eqn k e) : Eqn (k + 1) (eW e) := ⟨fun a b => by
 obtain ⟨a1, a2⟩ := a; obtain ⟨b1, b2⟩ := b
 unfold eW
 rw [eqv, eqvs, eqvs_map h.eq]
 simp only [eqv, Prod.mk.injEq, Bool.decide_and, Str_beq], fun n a hn => by
 obtain ⟨n, rfl⟩ : ∃ m, n = m + 1 := ⟨n - 1, by omega⟩
 unfold eW
 rw [plain, plains, plains_map (fun a => h.pl n a (by omega)) a.2]
 rfl⟩
def atW (p : Str × List α) (i : Int) : Res α := if 1 ≤ i then atL p.2 (i - 1) else if i < 0 ∧ -i ≤ p.2.length then atL p.2 i else .bad
theorem atI_cons {δ : Type} {d : δ} {l : List δ} {i : Int} (h : 1 ≤ i) : L2.atI (d :: l) i = L2.atI l (i - 1) := by
 obtain ⟨k, rfl⟩ : ∃ k : Nat, i = (k : Int) + 1 := ⟨(i - 1).toNat, by omega⟩
 unfold L2.atI
 rw [show (k : Int) + 1 - 1 = (k : Int) by omega, List.length_cons]
 by_cases hk : k < l.length
 ·rw [ixN_in (by omega) (by omega), ixN_in (by omega) (by omega), Option.bind_some, Option.bind_some, show ((k : Int) + 1).toNat = k + 1 by omega, List.getElem?_cons_succ, Int.toNat_natCast]
 ·have e1 : ixN (l.length + 1) ((k : Int) + 1) = none := by
   unfold ixN
   rw [if_pos (by omega), if_neg (by omega)]
  have e2 : ixN l.length (k : Int) = none := by
   unfold ixN
   rw [if_pos (by omega), if_neg (by omega)]
  rw [e1, e2]; rfl
theorem atI_consN {δ : Type} {d : δ} {l : List δ} {i : Int} (h : i < 0) (h2 : -i ≤ l.length) : L2.atI (d :: l) i = L2.atI l i := by
 unfold L2.atI
 have e1 : ixN (l.length + 1) i = some ((i + (l.length : Int)).toNat + 1) := by
  unfold ixN
  rw [if_neg (by omega), if_pos (by omega)]
  congr 1
  omega
 have e2 : ixN l.length i = some (i + (l.length : Int)).toNat := by
  unfold ixN
  rw [if_neg (by omega), if_pos (by omega)]
 rw [List.length_cons, e1, e2, Option.bind_some, Option.bind_some, List.getElem?_cons_succ]
theorem ixW {e : α → D} {p : Str × List α} {i : Int} (a : α) (h : atW p i = .ok a) : ixD (eW e p) (.int i) = some (e a) := by
 unfold atW at h
 show L2.atI (D.str p.1 :: p.2.map e) i = _
 split at h
 ·rename_i h1
  rw [atI_cons h1, atI_map, atL_some h]; rfl
 ·split at h
  ·rename_i h2
   rw [atI_consN h2.1 (by rw [List.length_map]; exact h2.2), atI_map, atL_some h]; rfl
  ·cases h
theorem ixW0 {e : α → D} (p : Str × List α) : ixD (eW e p) (.int 0) = some (eS p.1) := by
 show L2.atI (D.str p.1 :: p.2.map e) 0 = _
 unfold L2.atI
 rw [ixN_in (by omega) (by rw [List.length_cons]; omega)]
 rfl
def cutW (p : Str × List α) (lo hi : Option Int) : Res (List α) := match lo, hi with
 | some i, none => if 1 ≤ i ∧ i ≤ p.2.length + 1 then .ok (p.2.drop (i.toNat - 1)) else .bad
 | _, _ => .bad
theorem slWt {e : α → D} {p : Str × List α} {lo hi : Option Int} (x : List α) (h : cutW p lo hi = .ok x) : slD (eW e p) lo hi = some (eV e x) := by
 unfold cutW at h
 split at h
 ·rename_i i
  split at h
  ·rename_i hi
   cases h
   obtain ⟨k, rfl⟩ : ∃ k : Nat, i = (k : Int) + 1 := ⟨(i - 1).toNat, by omega⟩
   unfold eW slD eV; dsimp only
   rw [show ((k : Int) + 1) = ((k + 1 : Nat) : Int) by omega]
   unfold cutL
   rw [HT.sIx_nat, HT.sIx_none, List.length_cons, List.length_map, show min (k + 1) (p.2.length + 1) = k + 1 by omega, List.drop_succ_cons, List.take_of_length_le (by rw [List.length_drop, List.length_map]; omega), show ((k + 1 : Nat) : Int).toNat - 1 = k by omega, List.map_drop]
  ·cases h
 ·cases h
def cutWh (p : Str × List α) (hi : Option Int) : Res (Str × List α) := match hi with
 | some i => if 1 ≤ i ∧ i ≤ p.2.length then .ok (p.1, p.2.take (i.toNat - 1)) else .bad
 | none => .bad
theorem slWh {e : α → D} {p : Str × List α} {hi : Option Int} (x : Str × List α) (h : cutWh p hi = .ok x) : slD (eW e p) none hi = some (eW e x) := by
 unfold cutWh at h
 split at h
 ·rename_i i
  split at h
  ·rename_i hi
   cases h
   obtain ⟨k, rfl⟩ : ∃ k : Nat, i = (k : Int) + 1 := ⟨(i - 1).toNat, by omega⟩
   unfold eW slD; dsimp only
   rw [show ((k : Int) + 1) = ((k + 1 : Nat) : Int) by omega]
   unfold cutL
   rw [HT.sIx_nat, HT.sIx_none, List.length_cons, List.length_map, show min (k + 1) (p.2.length + 1) = k + 1 by omega, List.drop_zero, Nat.sub_zero, List.take_succ_cons, show ((k + 1 : Nat) : Int).toNat - 1 = k by omega, List.map_take]
  ·cases h
 ·cases h
def catW (p : Str × List α) (l : List α) : Res (Str × List α) := chk (p.2.length + l.length < 16777216) (p.1, p.2 ++ l)
theorem caW {e : α → D} {p : Str × List α} {l : List α} (x : Str × List α) (h : catW p l = .ok x) : addD (eW e p) (eV e l) = some (eW e x) := by
 obtain ⟨hc, rfl⟩ := chk_eq h
 unfold eW eV addD; dsimp only
 rw [if_pos (by rw [List.length_cons, List.length_map, List.length_map]; omega), List.cons_append, List.map_append]
def un2 : List α → Res (α × α)
 | [a, b] => .ok (a, b)
 | _ => .bad
def un3 : List α → Res (α × α × α)
 | [a, b, c] => .ok (a, b, c)
 | _ => .bad
theorem Sm.un3V {e : α → D} {l : List α} {f : En → Res D} (h : f ρ = .ok (eV e l)) : Sm False (eT3 e e e) (FL.un3 l) (f ρ) := by
 unfold FL.un3
 split
 ·exact h
 ·exact trivial
end
section
variable {α β : Type} {T : Tg β} {ρ : En} {F : En → Flw}
end
end FL
namespace FL
open PySem PySem.Spec PyProof.Rows L2
section
variable {α β : Type} {ρ : En} {T : Tg β} {F : En → Flw} {i : Nat}
theorem SmG.drop {γ δ : Type} {w : Prop} {eo : γ → OT} {es : γ → List OT} {es0 : List OT} {m : Res γ} {F : List OT → ResG} {ts : List OT} {eo2 : δ → OT} (g : γ → δ) (hg : ∀ a, eo a = eo2 (g a)) (h : SmG w eo es es0 m (F ts)) : SmG w eo2 (fun _ => []) [] (m.map g) (dropG F ts) := by
 unfold dropG
 cases m with
 | ok a =>
  have h : F ts = .ok (eo a) (es a) := h
  rw [h]
  show ResG.ok (eo a) [] = .ok (eo2 (g a)) []
  rw [hg]
 | ex x =>
  intro hw
  have h : F ts = .ex x es0 := h hw
  rw [h]
 | bad => exact trivial
end
end FL
namespace FL
open PySem PySem.Spec PyProof.Rows L2
section
variable {α : Type} {ρ : En}
end
end FL
namespace FL
open PySem PySem.Spec PyProof.Rows L2
section
variable {α β : Type} {ρ : En}
end
end FL
namespace FL
open PySem PySem.Spec PyProof.Rows L2
section
variable {α : Type}
end
end FL
namespace FL
open PySem PySem.Spec PyProof.Rows L2
section
variable {α : Type} {ρ : En}
end
end FL
namespace FL
open PySem PySem.Spec PyProof.Rows L2
section
variable {α : Type}
end
end FL
namespace FL
open PySem PySem.Spec PyProof.Rows L2
end FL
namespace FL
open PySem PySem.Spec PyProof.Rows L2
section
variable {α : Type}
end
end FL
namespace FL
open PySem PySem.Spec PyProof.Rows L2
section
variable {α β : Type} {ρ ρ1 ρ2 : En} {T : Tg β} {m m2 : Res β} {F fA fB : En → Flw}
end
end FL
namespace FL
open PySem PySem.Spec PyProof.Rows L2
section
variable {α β : Type} {ρ : En} {T : Tg β} {F : En → Flw} {d : D} {t : OT} {fw : En → Res D} {fc : En → Res OT}
theorem retX2_ok (hw : fw ρ = .ok d) (h : fc ρ = .ok t) : FL.retX (disX tupO (consX (xF fw) (consX (xO fc) nilX))) ρ = .rt (.tup [.d d, t]) ρ := by
 unfold FL.retX
 rw [disX_ok (oConsX (xF_ok hw) (oConsX (xO_ok h) oNilX)) tupO_ok]; rfl
theorem retX2_ex {x : Exn} (hw : fw ρ = .ok d) (h : fc ρ = .ex x) : FL.retX (disX tupO (consX (xF fw) (consX (xO fc) nilX))) ρ = .ex x ρ := by
 unfold FL.retX disX consX xF
 rw [hw]; dsimp only
 unfold xO
 rw [h]; rfl
theorem Tg.xretX2 {e : α → OT} {m1 : Res α} {hd : Exn → Res β} {K : α → Res β} (hw : fw ρ = .ok d) (h : Sm True e m1 (fc ρ)) (hx : ∀ x, T.Q (hd x) (.ex x ρ)) (q : ∀ a, T.Q (K a) (.rt (.tup [.d d, e a]) ρ)) : T.Q (exb m1 hd K) (seqF (FL.retX (disX tupO (consX (xF fw) (consX (xO fc) nilX)))) F ρ) := by
 cases m1 with
 | ok a => rw [seq_rt (retX2_ok hw h)]; exact q a
 | ex x => rw [seq_ex (retX2_ex hw (h trivial))]; exact hx x
 | bad => exact T.bad _
def Smz (m : Res α) (r : ResX) (ρx : En) : Prop := ∀ x, m = .ex x → r = .ex x ρx
end
end FL
namespace FL
open PySem PySem.Spec PyProof.Rows L2
section
variable {α β γ δ : Type} {ρ : En}
variable {C n1 n2 n3 n4 m : Str}
section
variable {e1 : α → D} {e2 : β → D} {e3 : γ → D} {e4 : δ → D}
end
section
variable {o1 : α → OT} {o2 : β → OT} {o3 : γ → OT} {o4 : δ → OT}
variable {s : Nat} {o : OT} {a : α × β × γ × δ} {fp : En → Res (List Nat)} {back : OT → OT}
end
end
section
variable {α β : Type} {ρ ρ1 : En} {T : Tg β} {m : Res β} {F : En → Flw}
end
section
variable {α : Type}
end
end FL
namespace FL
open PySem PySem.Spec PyProof.Rows L2
section
variable {α β γ δ σ τ R : Type}
variable {T : Tg β} {ρ : En} {F A : En → Flw} {i : Nat}
def tgEL (n : Option Nat) (ΦN : σ → En) (Φ : R → OT) (ΦE : R → En) : Tg (Fl σ R) where
 Q m f := match m with
  | .ok (.nx s) => unL n f = .nx (ΦN s)
  | .ok (.bk _) => False
  | .ok (.rt r) => unL n f = .rt (Φ r) (ΦE r)
  | .ex _ => True
  | .bad => True
 w := False
 X := fun _ => True
 bad _ := trivial
 exw _ _ _ := trivial
structure IsEL (T : Tg (Fl σ R)) (n : Option Nat) (ΦN : σ → En) (Φ : R → OT) (ΦE : R → En) : Prop where
 nx : ∀ {s ρ}, unL n (.nx ρ) = .nx (ΦN s) → T.Q (.ok (.nx s)) (.nx ρ)
 rt : ∀ {r o ρ}, o = Φ r → (hl : unL n (.rt (Φ r) ρ) = .rt (Φ r) (ΦE r) := by rfl) → T.Q (.ok (.rt r)) (.rt o ρ)
 X : ∀ {ρ}, T.X ρ
theorem tgEL.is {n : Option Nat} {ΦN : σ → En} {Φ : R → OT} {ΦE : R → En} : IsEL (tgEL n ΦN Φ ΦE) n ΦN Φ ΦE := ⟨fun h => h, fun h hl => by
 subst h
 exact hl, trivial⟩
end
section
variable {α : Type} {ρ : En}
def noPl (m : Res α) : Res α := match m with
 | .ex x => if x.p.isNone = true then .ex x else .bad
 | r => r
@[simp] theorem noPl_ok (a : α) : noPl (.ok a) = .ok a := rfl
@[simp] theorem noPl_ex (c : Str) : noPl (.ex ⟨c, none⟩ : Res α) = .ex ⟨c, none⟩ := rfl
theorem borSx {f : En → Res OT} {e : α → OT} {m : Res α} {ρ' : En} (fl : ∀ a, flatT (e a) = true) (hf : frz ρ = ρ') (h : Sm True e m (f ρ')) : Sm True e (noPl m) (borO f ρ) := by
 cases m with
 | ok a => exact borO_ok (by rw [hf]; exact h) (fl a)
 | ex x =>
  unfold noPl
  dsimp only
  split
  ·rename_i hp
   intro _
   have h := h trivial
   unfold FL.borO
   rw [hf, h]
   obtain ⟨c, p⟩ := x
   cases p with
   | none => rfl
   | some _ => cases hp
  ·exact trivial
 | bad => exact trivial
end
end FL
namespace FL
open PySem PySem.Spec PyProof.Rows L2
section
variable {α β γ δ σ τ R : Type}
variable {T : Tg β} {ρ : En} {F A : En → Flw} {i : Nat}
def grdQ (TT : List Str) (h : Exn → Res β) (x : Exn) : Res β := if decide (x.c ∈ TT) = true then h x else .bad
noncomputable def postQ (TT : List Str) (sub : Str → Str → Bool) (ks : List ClzQ) : Flw → Flw
 | .ex x ρ => if decide (x.c ∈ TT) = true then hdlQ sub ks x ρ else .bad
 | r => r
def tgTQ (T : Tg β) (TT : List Str) (sub : Str → Str → Bool) (ks : List ClzQ) : Tg β where
 Q m f := T.Q m (postQ TT sub ks f)
 w := True
 X := fun _ => False
 bad _ := T.bad _
 exw _ _ h := by
  obtain ⟨_, _, z⟩ := h trivial
  exact z.elim
theorem Tg.tryQ {TT : List Str} {sub : Str → Str → Bool} {er : R → OT → En → Prop} {N : σ → En → Prop} {NX : τ → En → Prop} {hd : τ → Exn → Res (Fl σ R)} {m : (τ → Exn → Res (Fl σ R)) → Res (Fl σ R)} {K : σ → Res β} {L : R → Res β} {ks : List ClzQ}
  (hh : ∀ T' : Tg (Fl σ R), IsL T' T.X er N → ∀ s x ρ, NX s ρ → T'.Q (hd s x) (hdlQ sub ks x ρ))
  (hb : ∀ T' : Tg (Fl σ R), IsL T' (fun _ => False) er N → ∀ h : τ → Exn → Res (Fl σ R), (∀ s x ρ, NX s ρ → T'.Q (h s x) (.ex x ρ)) → T'.Q (m h) (A ρ))
  (q : ∀ r o ρ', er r o ρ' → T.Q (L r) (.rt o ρ')) (k : ∀ s ρ', N s ρ' → T.Q (K s) (F ρ')) : T.Q ((trF (fun s => grdQ TT (hd s)) m).bind fun o => FL.fin o K L) (seqF (FL.tryQ TT sub A ks) F ρ) := by
 have is := tgL.is (w := T.w) (X := T.X) (er := er) (N := N)
 have e : FL.tryQ TT sub A ks ρ = postQ TT sub ks (A ρ) := by
  unfold FL.tryQ postQ
  cases A ρ <;> rfl
 have hb := hb (tgTQ (tgL T.w T.X er N) TT sub ks) ⟨fun h => is.rt h, fun h => is.nx h, fun h => h⟩ (fun s => grdQ TT (hd s)) fun s x ρ hn => by
  show (tgL T.w T.X er N).Q (grdQ TT (hd s) x) (if decide (x.c ∈ TT) = true then hdlQ sub ks x ρ else .bad)
  unfold grdQ
  split
  ·exact hh _ is s x ρ hn
  ·exact (tgL T.w T.X er N).bad _
 have hb : (tgL T.w T.X er N).Q (m fun s => grdQ TT (hd s)) (FL.tryQ TT sub A ks ρ) := by rw [e]; exact hb
 refine Tg.fin (N := N) (er := er) ?_ q k
 show match m fun s => grdQ TT (hd s) with
  | .ok (.nx s') => ∃ ρ', FL.tryQ TT sub A ks ρ = .nx ρ' ∧ N s' ρ'
  | .ok (.bk s') => ∃ ρ', FL.tryQ TT sub A ks ρ = .nx ρ' ∧ N s' ρ'
  | .ok (.rt r) => ∃ o ρ', FL.tryQ TT sub A ks ρ = .rt o ρ' ∧ er r o ρ'
  | .ex x => T.w → ∃ ρ', FL.tryQ TT sub A ks ρ = .ex x ρ' ∧ T.X ρ'
  | .bad => True
 generalize (m fun s => grdQ TT (hd s)) = m1 at hb ⊢
 cases m1 with
 | ok o => cases o with
  | nx s => exact hb
  | bk s => exact hb.elim
  | rt r => exact hb
 | ex x => exact hb
 | bad => trivial
theorem Tg.hdlNQ {sub : Str → Str → Bool} {x : Exn} (hX : T.X ρ) : T.Q (.ex x) (hdlQ sub [] x ρ) := T.exw _ _ fun _ => ⟨ρ, rfl, hX⟩
theorem Tg.hdlCQ {sub : Str → Str → Bool} {x : Exn} {k : ClzQ} {ks : List ClzQ} {m m2 : Res β} (h1 : T.Q m (caught k x.c x.p ρ)) (h2 : T.Q m2 (hdlQ sub ks x ρ)) : T.Q (if sub x.c k.c = true then m else m2) (hdlQ sub (k :: ks) x ρ) := by
 have e : hdlQ sub (k :: ks) x ρ = if sub x.c k.c = true then caught k x.c x.p ρ else hdlQ sub ks x ρ := rfl
 rw [e]
 split
 ·exact h1
 ·exact h2
def exD (a : Addr) : Option (Addr × D) → D
 | none => .exn a
 | some (dd, x) => .exq a dd x
theorem setQ_some {i : Nat} {a : Addr} {s : Option (Addr × D)} : setQ (some i) a s ρ = ρ.set i (some (.d (exD a s))) := by cases s <;> rfl
theorem Tg.suiteQ {T : Tg (Fl σ R)} {X : En → Prop} {er : R → OT → En → Prop} {N : σ → En → Prop} (is : IsL T X er N) {n : Option Nat} {ΦN : σ → En} {Φ : R → OT} {len : Nat} {m : Res (Fl σ R)} {c c' : Str} {p : Option D} {f : Addr → Option Addr → Str → En → Flw}
  (hm : ∀ a s, p = s.map (fun z : Addr × D => z.2) → ∀ T' : Tg (Fl σ R), IsE T' n ΦN Φ len → T'.Q m (f a (s.map fun z : Addr × D => z.1) c (setQ n a s ρ))) (hN : ∀ s, N s (ΦN s)) (hR : ∀ r, er r (Φ r) (List.replicate len none)) :
  T.Q (nox m) (caught ⟨c', n, f⟩ c p ρ) := by
 cases p with
 | none => exact Tg.suite is (g := fun a => f a none c (setQ n a none ρ)) (fun a => hm a none rfl) hN hR
 | some d =>
  have hm : ∀ a dd, (tgE n ΦN Φ len : Tg (Fl σ R)).Q m (f a (some dd) c (setQ n a (some (dd, d)) ρ)) := fun a dd => hm a (some (dd, d)) rfl _ tgE.is
  show T.Q (nox m) (allA fun a => allA fun dd => unE n (f a (some dd) c (setQ n a (some (dd, d)) ρ)))
  cases m with
  | ok o => cases o with
   | nx s =>
    rw [allA_of (r := .nx (ΦN s)) fun a => allA_of (r := .nx (ΦN s)) fun dd => hm a dd]
    exact is.nx (hN s)
   | bk s => exact (hm 0 0).elim
   | rt r =>
    rw [allA_of (r := .rt (Φ r) (List.replicate len none)) fun a => allA_of (r := .rt (Φ r) (List.replicate len none)) fun dd => hm a dd]
    exact is.rt (hR r)
  | ex x => exact T.bad _
  | bad => exact T.bad _
theorem op1XQ {a : Addr} {s : Option (Addr × D)} {b : Bool} {f : En → Res D} (h : f ρ = .ok (exD a s)) : op1 (isXQ a (s.map fun z : Addr × D => z.1) b) f ρ = .ok (eB b) := by
 rw [ev_op1, h, Res.bind_ok]
 cases s with
 | none => unfold exD isXQ; dsimp only; rw [if_pos ⟨rfl, rfl⟩]; rfl
 | some z => unfold exD isXQ; dsimp only; rw [if_pos ⟨rfl, rfl⟩]; rfl
def pthXT : Option D → Res D
 | some d => .ok d
 | none => .bad
theorem pthXS {a : Addr} {s : Option (Addr × D)} {p : Option D} {f : En → Res D} (hp : p = s.map fun z : Addr × D => z.2) (h : f ρ = .ok (exD a s)) : Sm False eD (pthXT p) (op1 (pthX a (s.map fun z : Addr × D => z.1)) f ρ) := by
 subst hp
 cases s with
 | none => exact trivial
 | some z =>
  show op1 _ f ρ = .ok z.2
  rw [ev_op1, h, Res.bind_ok]
  unfold exD pthX; dsimp only; rw [if_pos ⟨rfl, rfl⟩]; rfl
theorem Tg.sraP {c : Str} {e : α → D} {m : Res α} {f : En → Res D} (h : Sm False e m (f ρ)) (hx : T.X ρ) : T.Q (FL.nb m fun a => (.ex ⟨c, some (e a)⟩ : Res β)) (seqF (raP c f) F ρ) := by
 cases m with
 | ok a =>
  have h : f ρ = .ok (e a) := h
  refine T.exw _ _ fun _ => ⟨ρ, ?_, hx⟩
  unfold raP
  rw [show seqF (fun ρ => bindF (f ρ) ρ fun d => .ex ⟨c, some d⟩ ρ) F ρ = .ex ⟨c, some (e a)⟩ ρ by unfold seqF; dsimp only; rw [h]; rfl]
 | ex x => exact T.bad _
 | bad => exact T.bad _
end
end FL
namespace FL
open PySem PySem.Spec PyProof.Rows L2
variable {α : Type}
end FL
namespace FL
open PySem PySem.Spec PyProof.Rows L2
section
variable {α β γ δ : Type} {ρ ρ1 ρ2 : En}
def eA (e1 : α → D) (e2 : β → D) : α ⊕ β → D
 | .inl a => e1 a
 | .inr b => e2 b
end
section
variable {α β γ δ : Type}
end
section
variable {α : Type}
end
section
variable {ρ : En}
end
end FL
namespace FL
open PySem PySem.Spec PyProof.Rows L2
section
variable {α β γ δ σ τ R : Type}
variable {T : Tg β} {ρ : En} {F A : En → Flw} {i : Nat}
end
end FL
namespace FL
open PySem PySem.Spec PyProof.Rows L2
end FL
namespace FL
open PySem PySem.Spec PyProof.Rows L2
section
variable {β : Type} {T : Tg β} {A F : En → Flw} {ρ : En} {ks : List Nat} {s : Nat} {K : OT → Res β}
theorem Tg.gd {b : Bool} {m : Res β} {f : Flw} (h : b = true → T.Q m f) : T.Q (if b = true then m else .bad) f := by
 by_cases e : b = true
 ·rw [if_pos e]; exact h e
 ·rw [if_neg e]; exact T.bad _
end
section
variable {α β : Type} {T : Tg β} {F : En → Flw} {ρ : En} {s : Nat}
end
end FL
namespace FL
open PySem PySem.Spec PyProof.Rows L2
end FL
namespace FL
open PySem PySem.Spec PyProof.Rows L2
section
variable {α β σ : Type}
variable {ρ : En} {s : Nat}
end
end FL
namespace FL
open PySem PySem.Spec PyProof.Rows L2
end FL
namespace FL
open PySem PySem.Spec PyProof.Rows L2
end FL
namespace FL
open PySem PySem.Spec PyProof.Rows L2
section
variable {α : Type} {ρ : En}
def splC (a b : Str) : Res (List Str) := chk (b.length = 1 ∧ b.cps.all (· < 256) = true ∧ a.length + 2 ≤ 16777216) (Txt.split a b)
theorem splP {a b : Str} : ∀ l, splC a b = .ok l → splO [eS a, eS b] = some (oL (oD eS) l) := by
 intro l h
 unfold splC chk at h
 split at h
 ·rename_i hz
  cases h
  show (if _ then _ else _) = _
  rw [if_pos hz]
  show some (OT.lst _) = some (OT.lst _)
  rw [List.map_map]
  rfl
 ·cases h
theorem fzsN : fzs [] = [] := rfl
theorem fzsC {t : OT} {d : D} {ts : List OT} {ds : List D} (h : FL.fz t = d) (hs : fzs ts = ds) : fzs (t :: ts) = d :: ds := by rw [fzs, h, hs]
theorem Smx.callD {F : List D → Res OT} {fs : En → ResA} {ρ2 : En} {ts : List OT} {ds : List D} {w : Prop} {eo : α → OT} {mr : Res α} (h : OwnOK fs ρ ts ρ2) (hz : fzs ts = ds) (hF : Sm w eo mr (F ds)) : Smx mr (FL.callD F fs ρ) eo (fun _ => ρ2) := fun a q => callD_ok h (by rw [hz]; subst q; exact hF)
end
section
variable {β σ R : Type} {T : Tg β} {ρ : En} {F A : En → Flw}
end
end FL
namespace FL
open PySem PySem.Spec PyProof.Rows L2
section
variable {ρ : En}
end
end FL
namespace FL
open PySem PySem.Spec PyProof.Rows L2
section
variable {α β γ δ : Type} {ρ ρ1 ρ2 : En} {T : Tg β} {m : Res β} {F A : En → Flw} {i : Nat} {fx : En → ResX} {t : OT}
theorem Smz.callD {G : List D → Res OT} {fs : En → ResA} {ts : List OT} {ds : List D} {eo : α → OT} {mr : Res α} (h : OwnOK fs ρ ts ρ2) (hz : fzs ts = ds) (hF : Sm True eo mr (G ds)) : Smz mr (FL.callD G fs ρ) ρ2 := fun x e => by
 subst e
 obtain ⟨as, a, b⟩ := h
 unfold FL.callD
 rw [a, callY, b]
 dsimp only
 rw [hz, show G ds = .ex x from hF trivial]
theorem Tg.extXS {e : γ → D} {ts0 : List OT} {l : List γ} {g : α → List γ} {m1 : Res α} {eo : α → OT} {ρe : α → En} {ρx : En} {K : α → List γ → Res β} (hs : ρ[i]? = some (some (.lst ts0))) (h : Smx m1 (fx ρ) eo ρe) (hz : Smz m1 (fx ρ) ρx)
  (h1 : ∀ a, (ρe a)[i]? = some (some (oL (oD e) l))) (z : ∀ a, FL.fz (eo a) = eL e (g a)) (hx : T.X ρx) (k : ∀ a y, T.Q (K a y) (F ((ρe a).set i (some (oL (oD e) y))))) : T.Q (m1.bind fun a => FL.nb (cat l (g a)) (K a)) (seqF (extX i fx) F ρ) := by
 cases m1 with
 | bad => exact T.bad _
 | ex x =>
  have e1 : FL.extX i fx ρ = .ex x ρx := by unfold FL.extX; rw [hs]; dsimp only; rw [hz x rfl]; rfl
  exact T.exw x _ fun _ => ⟨ρx, seq_ex e1, hx⟩
 | ok a =>
  show T.Q (FL.nb (cat l (g a)) (K a)) _
  refine Tg.nq fun y hy => ?_
  obtain ⟨hl, rfl⟩ := chk_eq hy
  have e1 : FL.extX i fx ρ = .nx ((ρe a).set i (some (oL (oD e) (l ++ g a)))) := by
   unfold FL.extX
   rw [hs]
   dsimp only
   rw [h a rfl]
   show (match (ρe a)[i]? with | some (some (.lst ts)) => _ | _ => _) = _
   rw [h1 a]
   show (match FL.fz (eo a) with | .lst ds => _ | _ => _) = _
   rw [z a]
   show (if (l.map (oD e)).length + ((g a).map e).length ≤ 16777216 then _ else _) = _
   rw [List.length_map, List.length_map, if_pos hl, List.map_map]
   unfold oL
   rw [List.map_append]
   rfl
  rw [seq_nx e1 rfl]
  exact k a _
theorem Tg.foX {g : D → En → Option En} {xs : List D} (h : fx ρ = .ok t ρ1) (z : FL.fz t = .lst xs) (q : T.Q m (seqF (forF (fun _ => .ok xs) g A) F ρ1)) : T.Q m (seqF (forX fx g A) F ρ) := by
 have e : FL.forX fx g A ρ = forF (fun _ => .ok xs) g A ρ1 := by
  unfold FL.forX
  rw [h]
  show (match FL.fz t with | .lst xs => _ | _ => _) = _
  rw [z]
  rfl
 unfold seqF at q ⊢
 rw [e]
 exact q
theorem Smx.mto {Ty : String} {g : List D → Option OT} {fs : En → Res (List D)} {d : D} {ds : List D} {e : α → OT} {mr : Res α} (h : fx ρ = .ok t ρ1) (z : FL.fz t = d) (hs : fs ρ1 = .ok ds) (ht : tyD Ty d = true) (hg : ∀ a, mr = .ok a → g (d :: ds) = some (e a)) : Smx mr (mtoX Ty g fx fs ρ) e (fun _ => ρ1) := fun a q => by
 unfold mtoX
 rw [h]
 dsimp only
 rw [z, if_pos ht, hs]
 dsimp only
 rw [hg a q]
theorem nilOE : nilO ρ = .ok [] := rfl
theorem consOE {f : En → Res OT} {fs : En → Res (List OT)} {o : OT} {ts : List OT} (h : f ρ = .ok o) (hs : fs ρ = .ok ts) : consO f fs ρ = .ok (o :: ts) := by unfold consO; rw [h, Res.bind_ok, hs, Res.bind_ok]
theorem Sm.pick {fs : En → Res (List OT)} {fi : En → Res D} {eo : α → OT} {xs : List α} {k : Int} (h : fs ρ = .ok (xs.map eo)) (hk : fi ρ = .ok (eI k)) (hl : xs.length ≤ 16777216 := by exact Nat.le_of_ble_eq_true rfl) : Sm False eo (atL xs k) (pickO (disL fs) fi ρ) := by
 unfold pickO disL
 rw [h, Res.bind_ok, List.length_map, if_pos hl, Res.bind_ok, hk, Res.bind_ok]
 show Sm False eo (atL xs k) (match L2.atI (xs.map eo) k with | some u => Res.ok u | none => .bad)
 unfold atL L2.atI
 rw [List.length_map]
 cases e3 : ixN xs.length k with
 | none => trivial
 | some j =>
  show Sm False eo (match (some j).bind (fun i => xs[i]?) with | some x => Res.ok x | none => .bad) (match (some j).bind (fun i => (xs.map eo)[i]?) with | some u => Res.ok u | none => .bad)
  rw [Option.bind_some, Option.bind_some, List.getElem?_map]
  cases xs[j]? with
  | none => trivial
  | some a => rfl
end
end FL
namespace FL
open PySem PySem.Spec PyProof.Rows L2
section
variable {α β σ R : Type}
theorem rn1_nat {n : Nat} (h : n ≤ 16777216) : rn1 (n : Int) = .ok ((List.range n).map fun (i : Nat) => (i : Int)) := by
 unfold rn1
 rw [chk_ok (by omega)]
 unfold rngI
 rw [Int.toNat_natCast]
 congr 1
 exact List.map_congr_left fun i _ => by omega
theorem rn2_nat {a b : Nat} (ha : a ≤ 1000000000) (h : b ≤ 16777216) : rn2 (a : Int) (b : Int) = .ok ((List.range (b - a)).map fun (i : Nat) => ((a + i : Nat) : Int)) := by
 unfold rn2
 rw [chk_ok (by omega)]
 unfold rngI
 rw [show ((b : Int) - (a : Int)).toNat = b - a by omega]
 congr 1
 exact List.map_congr_left fun i _ => by omega
theorem rn3_down {n : Nat} (h : n ≤ 16777215) : rn3 ((n : Int) - 1) (-1) (-1) = .ok ((List.range n).map fun (i : Nat) => ((n - 1 - i : Nat) : Int)) := by
 unfold rn3
 rw [chk_ok (by omega)]
 unfold rngI
 rw [show ((n : Int) - 1 - -1).toNat = n by omega]
 congr 1
 exact List.map_congr_left fun i hi => by
  have := List.mem_range.mp hi
  omega
theorem fo_ind {body : α → σ → Res σ} (P : Nat → σ → Prop) : ∀ {xs : List α} {s : σ} (k : Nat), P k s → (∀ i x s, xs[i]? = some x → P (k + i) s → ∃ s', body x s = .ok s' ∧ P (k + i + 1) s') → ∃ s', fo body xs s = .ok s' ∧ P (k + xs.length) s'
 | [], s, k, h, _ => ⟨s, rfl, h⟩
 | x :: xs, s, k, h, hs => by
  obtain ⟨s1, h1, h2⟩ := hs 0 x s rfl h
  obtain ⟨s2, h3, h4⟩ := fo_ind P (k + 1) h2 fun i y s hy hp => by
   obtain ⟨s', a, b⟩ := hs (i + 1) y s (by simpa using hy) (by rw [show k + (i + 1) = k + 1 + i by omega]; exact hp)
   exact ⟨s', a, by rw [show k + 1 + i + 1 = k + (i + 1) + 1 by omega]; exact b⟩
  refine ⟨s2, ?_, by rw [List.length_cons, show k + (xs.length + 1) = k + 1 + xs.length by omega]; exact h4⟩
  unfold fo
  rw [h1, Res.bind_ok]; exact h3
theorem fo_inv {body : α → σ → Res σ} {xs : List α} {s : σ} (P : Nat → σ → Prop) (h0 : P 0 s) (hs : ∀ i x s, xs[i]? = some x → P i s → ∃ s', body x s = .ok s' ∧ P (i + 1) s') : ∃ s', fo body xs s = .ok s' ∧ P xs.length s' := by
 obtain ⟨s', a, b⟩ := fo_ind P 0 h0 fun i x s hx hp => by
  obtain ⟨s', a, b⟩ := hs i x s hx (by rw [Nat.zero_add] at hp; exact hp)
  exact ⟨s', a, by rw [Nat.zero_add]; exact b⟩
 exact ⟨s', a, by rw [Nat.zero_add] at b; exact b⟩
theorem lp_inv {body : α → σ → Res (Fl σ R)} : ∀ {xs : List α} {s : σ} (P : Nat → σ → Prop), P 0 s → (∀ i x s, xs[i]? = some x → P i s → ∃ s', body x s = .ok (.nx s') ∧ P (i + 1) s') → ∃ s', lp body xs s = .ok (.nx s') ∧ P xs.length s'
 | [], s, P, h, _ => ⟨s, rfl, h⟩
 | x :: xs, s, P, h, hs => by
  obtain ⟨s1, h1, h2⟩ := hs 0 x s rfl h
  obtain ⟨s2, h3, h4⟩ := lp_inv (fun i => P (i + 1)) h2 fun i y s hy hp => hs (i + 1) y s (by simpa using hy) hp
  refine ⟨s2, ?_, h4⟩
  unfold lp
  rw [h1, Res.bind_ok]; exact h3
theorem lp_none {body : α → Unit → Res (Fl Unit R)} {xs : List α} (h : ∀ x ∈ xs, body x () = .ok (.nx ())) : lp body xs () = .ok (.nx ()) := by
 obtain ⟨s, a, _⟩ := lp_inv (fun _ _ => True) trivial (xs := xs) (s := ()) (body := body) fun i x s hx _ => ⟨(), h x (List.mem_of_getElem? hx), trivial⟩
 exact a
theorem modI_ok {i j : Int} (h : 0 < j) : modI i j = .ok (i % j) := chk_ok h
theorem divI_ok {i j : Int} (h : 0 < j ∧ j < 1073741824) : divI i j = .ok (i / j) := chk_ok h
theorem mulI_ok {i j : Int} (h : (-(2 ^ 64) < i ∧ i < 2 ^ 64) ∨ (-(2 ^ 64) < j ∧ j < 2 ^ 64)) : mulI i j = .ok (i * j) := chk_ok h
theorem ite_t {p : Prop} [Decidable p] {a b : α} (h : p) : (if decide p = true then a else b) = a := if_pos (decide_eq_true h)
theorem ite_f {p : Prop} [Decidable p] {a b : α} (h : ¬p) : (if decide p = true then a else b) = b := if_neg (by rw [decide_eq_true_eq]; exact h)
end
end FL
namespace FL
open PySem PySem.Spec PyProof.Rows L2
noncomputable def F_is_line (line_ : Str) : Res Bool :=
 .ok ((decide ((line_.length : Int) ≤ 8)) && ((line_.cps.toList.map fun (sign_ : Nat) => (decide (sign_ ∈ ("abcdefghijklmnopqrstuvwxyz" : Str).cps.toList))).all id))
noncomputable def F_is_row (row_ : (List Str)) : Res Bool :=
 nb (if (decide ((row_.length : Int) ≤ 40)) = true then nb (comp (fun (line_ : Str) => .ok true) (fun (line_ : Str) => (nb (F_is_line line_) fun (t_ : Bool) => .ok t_ : Res Bool)) row_) fun (t_1 : (List Bool)) => .ok (t_1.all id) else .ok false) fun (t_2 : Bool) =>
 .ok t_2
def lat (a : List Str) (i : Nat) : Str := (a[i]?).getD ""
def gl (z : Str) : Prop := z.length ≤ 8 ∧ ∀ c ∈ z.cps.toList, c ∈ ("abcdefghijklmnopqrstuvwxyz" : Str).cps.toList
instance (z : Str) : Decidable (gl z) := inferInstanceAs (Decidable (_ ∧ _))
def gr (row : List Str) : Prop := row.length ≤ 40 ∧ ∀ z ∈ row, gl z
theorem F_is_line_ok (z : Str) : F_is_line z = .ok (decide (gl z)) := by
 unfold F_is_line
 congr 1
 rw [List.all_map]
 refine Bool.eq_iff_iff.mpr ⟨fun h => decide_eq_true ?_, fun h => ?_⟩
 ·simp only [Bool.and_eq_true, decide_eq_true_eq, List.all_eq_true, Function.comp, id] at h
  exact ⟨by have := h.1; omega, h.2⟩
 ·have h := of_decide_eq_true h
  simp only [Bool.and_eq_true, decide_eq_true_eq, List.all_eq_true, Function.comp, id]
  exact ⟨by have := h.1; omega, h.2⟩
instance (row : List Str) : Decidable (gr row) := inferInstanceAs (Decidable (_ ∧ ∀ z ∈ row, gl z))
theorem F_is_row_ok (row : List Str) : F_is_row row = .ok (decide (gr row)) := by
 unfold F_is_row
 by_cases h : (row.length : Int) ≤ 40
 ·rw [ite_t h, comp_map (q' := fun z => decide (gl z)) ?_, nb_ok, nb_ok]
  ·congr 1
   rw [List.all_map]
   refine Bool.eq_iff_iff.mpr ⟨fun a => decide_eq_true ⟨by omega, fun z hz => of_decide_eq_true (List.all_eq_true.mp a z hz)⟩, fun a => ?_⟩
   exact List.all_eq_true.mpr fun z hz => decide_eq_true ((of_decide_eq_true a).2 z hz)
  ·intro z _
   rw [F_is_line_ok, nb_ok]
 ·rw [ite_f h, nb_ok]
  congr 1
  exact (decide_eq_false fun z => h (by have := z.1; omega)).symm
end FL
namespace FL
open PySem PySem.Spec PyProof.Rows L2
noncomputable def F_check_row (row_ : (List Str)) : Res Unit :=
 nb (F_is_row row_) fun (t_ : Bool) =>
 if (!t_) = true then
 (.ex ⟨"BadRow", none⟩)
 else
 (.ok ())
noncomputable def F_check_two (old_ : (List Str)) (new_ : (List Str)) : Res Unit :=
 Res.bind (F_check_row old_) fun _ =>
 Res.bind (F_check_row new_) fun _ =>
 .ok ()
theorem F_check_row_ok {row : List Str} (h : gr row) : F_check_row row = .ok () := by
 unfold F_check_row
 rw [F_is_row_ok, nb_ok, decide_eq_true h]; rfl
theorem F_check_row_bad {row : List Str} (h : ¬gr row) : F_check_row row = .ex ⟨"BadRow", none⟩ := by
 unfold F_check_row
 rw [F_is_row_ok, nb_ok, decide_eq_false h]; rfl
theorem F_check_two_ok {a b : List Str} (h : gr a) (h2 : gr b) : F_check_two a b = .ok () := by
 unfold F_check_two
 rw [F_check_row_ok h, F_check_row_ok h2]; rfl
end FL
namespace FL
open PySem
section
variable {α : Type} [DecidableEq α]
def lcs : List α → List α → Nat
 | [], _ => 0
 | _ :: _, [] => 0
 | x :: a, y :: b => if x = y then max (max (lcs a (y :: b)) (lcs (x :: a) b)) (lcs a b + 1) else max (lcs a (y :: b)) (lcs (x :: a) b)
termination_by a b => a.length + b.length
theorem lcs_nil (a : List α) : lcs a [] = 0 := by cases a <;> simp [lcs]
theorem lcs_nil' (b : List α) : lcs [] b = 0 := by simp [lcs]
theorem lcs_cons (x y : α) (a b : List α) : lcs (x :: a) (y :: b) = if x = y then max (max (lcs a (y :: b)) (lcs (x :: a) b)) (lcs a b + 1) else max (lcs a (y :: b)) (lcs (x :: a) b) := by rw [lcs]
theorem lcs_left (x : α) (a b : List α) : lcs a b ≤ lcs (x :: a) b := by
 cases b with
 | nil => rw [lcs_nil, lcs_nil]; exact Nat.le_refl _
 | cons y b =>
  rw [lcs_cons]
  split <;> omega
theorem lcs_right (y : α) (a b : List α) : lcs a b ≤ lcs a (y :: b) := by
 cases a with
 | nil => rw [lcs_nil', lcs_nil']; exact Nat.le_refl _
 | cons x a =>
  rw [lcs_cons]
  split <;> omega
theorem lcs_both (x : α) (a b : List α) : lcs a b + 1 ≤ lcs (x :: a) (x :: b) := by
 rw [lcs_cons, if_pos rfl]; omega
inductive Prs (a b : List α) : Nat → Nat → List (Nat × Nat) → Prop
 | nil (i j : Nat) : Prs a b i j []
 | cons {i j k m : Nat} {l : List (Nat × Nat)} (h1 : i ≤ k) (h2 : j ≤ m) (h3 : k < a.length) (h4 : m < b.length) (h5 : a[k]? = b[m]?) (t : Prs a b (k + 1) (m + 1) l) : Prs a b i j ((k, m) :: l)
theorem lcs_drop_mono (a b : List α) {i k : Nat} (j : Nat) (h : i ≤ k) : lcs (a.drop k) (b.drop j) ≤ lcs (a.drop i) (b.drop j) := by
 induction h with
 | refl => exact Nat.le_refl _
 | @step k h ih =>
  refine Nat.le_trans ?_ ih
  by_cases hk : k < a.length
  ·rw [List.drop_eq_getElem_cons hk]; exact lcs_left _ _ _
  ·rw [show a.drop (k + 1) = [] from List.drop_eq_nil_of_le (by omega), lcs_nil']; exact Nat.zero_le _
theorem lcs_drop_mono' (a b : List α) {j m : Nat} (i : Nat) (h : j ≤ m) : lcs (a.drop i) (b.drop m) ≤ lcs (a.drop i) (b.drop j) := by
 induction h with
 | refl => exact Nat.le_refl _
 | @step m h ih =>
  refine Nat.le_trans ?_ ih
  by_cases hk : m < b.length
  ·rw [List.drop_eq_getElem_cons hk]; exact lcs_right _ _ _
  ·rw [show b.drop (m + 1) = [] from List.drop_eq_nil_of_le (by omega), lcs_nil]; exact Nat.zero_le _
theorem lcs_match (a b : List α) {k m : Nat} (h3 : k < a.length) (h4 : m < b.length) (h5 : a[k]? = b[m]?) : lcs (a.drop (k + 1)) (b.drop (m + 1)) + 1 ≤ lcs (a.drop k) (b.drop m) := by
 rw [List.drop_eq_getElem_cons h3, List.drop_eq_getElem_cons h4]
 rw [List.getElem?_eq_getElem h3, List.getElem?_eq_getElem h4] at h5
 rw [Option.some.inj h5]
 exact lcs_both _ _ _
theorem Prs.most {a b : List α} {i j : Nat} {l : List (Nat × Nat)} (h : Prs a b i j l) : l.length ≤ lcs (a.drop i) (b.drop j) := by
 induction h with
 | nil => exact Nat.zero_le _
 | @cons i j k m l h1 h2 h3 h4 h5 t ih =>
  rw [List.length_cons]
  have q := lcs_match a b h3 h4 h5
  have q1 := lcs_drop_mono a b m h1
  have q2 := lcs_drop_mono' a b i h2
  omega
theorem lcs_pair (a b : List α) : ∀ (n i j : Nat), a.length + b.length ≤ n + i + j → i ≤ a.length → j ≤ b.length → 0 < lcs (a.drop i) (b.drop j) → ∃ k m, i ≤ k ∧ j ≤ m ∧ k < a.length ∧ m < b.length ∧ a[k]? = b[m]? ∧ lcs (a.drop (k + 1)) (b.drop (m + 1)) + 1 = lcs (a.drop i) (b.drop j) := by
 intro n
 induction n with
 | zero =>
  intro i j h hi hj hp
  rw [show a.drop i = [] from List.drop_eq_nil_of_le (by omega), lcs_nil'] at hp
  omega
 | succ n ih =>
  intro i j h hi hj hp
  by_cases ha : i < a.length
  ·by_cases hb : j < b.length
   ·have e := lcs_cons a[i] b[j] (a.drop (i + 1)) (b.drop (j + 1))
    rw [← List.drop_eq_getElem_cons ha, ← List.drop_eq_getElem_cons hb] at e
    have left : lcs (a.drop (i + 1)) (b.drop j) = lcs (a.drop i) (b.drop j) → _ := fun q => ih (i + 1) j (by omega) (by omega) hj (by rw [q]; exact hp)
    have right : lcs (a.drop i) (b.drop (j + 1)) = lcs (a.drop i) (b.drop j) → _ := fun q => ih i (j + 1) (by omega) hi (by omega) (by rw [q]; exact hp)
    have go1 : lcs (a.drop (i + 1)) (b.drop j) = lcs (a.drop i) (b.drop j) → ∃ k m, i ≤ k ∧ j ≤ m ∧ k < a.length ∧ m < b.length ∧ a[k]? = b[m]? ∧ lcs (a.drop (k + 1)) (b.drop (m + 1)) + 1 = lcs (a.drop i) (b.drop j) := fun q => by
     obtain ⟨k, m, z1, z2, z3, z4, z5, z6⟩ := left q
     exact ⟨k, m, by omega, z2, z3, z4, z5, z6.trans q⟩
    have go2 : lcs (a.drop i) (b.drop (j + 1)) = lcs (a.drop i) (b.drop j) → ∃ k m, i ≤ k ∧ j ≤ m ∧ k < a.length ∧ m < b.length ∧ a[k]? = b[m]? ∧ lcs (a.drop (k + 1)) (b.drop (m + 1)) + 1 = lcs (a.drop i) (b.drop j) := fun q => by
     obtain ⟨k, m, z1, z2, z3, z4, z5, z6⟩ := right q
     exact ⟨k, m, z1, by omega, z3, z4, z5, z6.trans q⟩
    split at e
    ·rename_i hx
     rcases Nat.lt_or_ge (max (lcs (a.drop (i + 1)) (b.drop j)) (lcs (a.drop i) (b.drop (j + 1)))) (lcs (a.drop (i + 1)) (b.drop (j + 1)) + 1) with z | z
     ·exact ⟨i, j, Nat.le_refl _, Nat.le_refl _, ha, hb, by rw [List.getElem?_eq_getElem ha, List.getElem?_eq_getElem hb, hx], by omega⟩
     ·rcases Nat.le_total (lcs (a.drop (i + 1)) (b.drop j)) (lcs (a.drop i) (b.drop (j + 1))) with y | y
      ·exact go2 (by omega)
      ·exact go1 (by omega)
    ·rcases Nat.le_total (lcs (a.drop (i + 1)) (b.drop j)) (lcs (a.drop i) (b.drop (j + 1))) with y | y
     ·exact go2 (by omega)
     ·exact go1 (by omega)
   ·rw [show b.drop j = [] from List.drop_eq_nil_of_le (by omega), lcs_nil] at hp
    omega
  ·rw [show a.drop i = [] from List.drop_eq_nil_of_le (by omega), lcs_nil'] at hp
   omega
end
end FL
namespace FL
open PySem PySem.Spec PyProof.Rows L2
section
variable {α β σ R : Type}
def lt2 (p q : Nat × Nat) : Prop := p.1 < q.1 ∨ (p.1 = q.1 ∧ p.2 < q.2)
def ll : List (Nat × Nat) → List (Nat × Nat) → Prop
 | _, [] => False
 | [], _ :: _ => True
 | p :: l, q :: m => lt2 p q ∨ (p = q ∧ ll l m)
theorem lt2_tri (p q : Nat × Nat) : lt2 p q ∨ p = q ∨ lt2 q p := by
 obtain ⟨a, b⟩ := p; obtain ⟨c, d⟩ := q
 unfold lt2
 simp only [Prod.mk.injEq]
 omega
theorem ll_tri : ∀ l m : List (Nat × Nat), ll l m ∨ l = m ∨ ll m l
 | [], [] => .inr (.inl rfl)
 | [], _ :: _ => .inl trivial
 | _ :: _, [] => .inr (.inr trivial)
 | p :: l, q :: m => by
  rcases lt2_tri p q with h | h | h
  ·exact .inl (.inl h)
  ·rcases ll_tri l m with h2 | h2 | h2
   ·exact .inl (.inr ⟨h, h2⟩)
   ·exact .inr (.inl (by rw [h, h2]))
   ·exact .inr (.inr (.inr ⟨h.symm, h2⟩))
  ·exact .inr (.inr (.inl h))
def ii (p : Nat × Nat) : Int × Int := ((p.1 : Int), (p.2 : Int))
variable [DecidableEq α]
theorem lcs_le (a b : List α) : lcs a b ≤ a.length := by
 induction a generalizing b with
 | nil => rw [lcs_nil']; exact Nat.zero_le _
 | cons x a ih =>
  induction b with
  | nil => rw [lcs_nil]; exact Nat.zero_le _
  | cons y b ihb =>
   rw [lcs_cons]
   have h1 := ih (y :: b)
   have h2 := ih b
   rw [List.length_cons] at ihb ⊢
   split <;> omega
structure Best (a b : List α) (i j : Nat) (l : List (Nat × Nat)) : Prop where
 prs : Prs a b i j l
 len : l.length = lcs (a.drop i) (b.drop j)
 best : ∀ m, Prs a b i j m → m.length = l.length → ¬ll m l
theorem Best.uniq {a b : List α} {i j : Nat} {l m : List (Nat × Nat)} (h : Best a b i j l) (h2 : Best a b i j m) : l = m := by
 have e : l.length = m.length := h.len.trans h2.len.symm
 rcases ll_tri l m with z | z | z
 ·exact absurd z (h2.best l h.prs e)
 ·exact z
 ·exact absurd z (h.best m h2.prs e.symm)
structure Val (a b : List α) (i j k m : Nat) : Prop where
 hi : i ≤ k
 hj : j ≤ m
 hk : k < a.length
 hm : m < b.length
 he : a[k]? = b[m]?
 hs : lcs (a.drop (k + 1)) (b.drop (m + 1)) + 1 = lcs (a.drop i) (b.drop j)
theorem Best.cons {a b : List α} {i j k m : Nat} {t : List (Nat × Nat)} (v : Val a b i j k m) (f : ∀ k' m', Val a b i j k' m' → ¬lt2 (k', m') (k, m)) (h : Best a b (k + 1) (m + 1) t) : Best a b i j ((k, m) :: t) := by
 refine ⟨.cons v.hi v.hj v.hk v.hm v.he h.prs, by rw [List.length_cons, h.len, v.hs], fun l p e => ?_⟩
 cases p with
 | nil => rw [List.length_cons] at e; cases e
 | @cons _ _ k' m' t' h1 h2 h3 h4 h5 q =>
  rw [List.length_cons, List.length_cons] at e
  have e1 := q.most
  have e2 := lcs_match a b h3 h4 h5
  have e3 := lcs_drop_mono a b m' h1
  have e4 := lcs_drop_mono' a b i h2
  have e5 := h.len
  have e6 := v.hs
  rintro (z | ⟨z1, z2⟩)
  ·exact f k' m' ⟨h1, h2, h3, h4, h5, by omega⟩ z
  ·cases z1
   exact h.best t' q (by omega) z2
theorem Best.nil {a b : List α} {i j : Nat} (h : lcs (a.drop i) (b.drop j) = 0) : Best a b i j [] := ⟨.nil i j, h.symm, fun m _ e => by
 cases m with
 | nil => exact fun z => z
 | cons _ _ => cases e⟩
theorem least1 {P : Nat → Prop} (h : ∃ n, P n) : ∃ n, P n ∧ ∀ m, m < n → ¬P m := by
 obtain ⟨n, hn⟩ := h
 induction n using Nat.strongRecOn with
 | _ n ih =>
  rcases Classical.em (∃ m, m < n ∧ P m) with ⟨m, h1, h2⟩ | h
  ·exact ih m h1 h2
  ·exact ⟨n, hn, fun m h1 h2 => h ⟨m, h1, h2⟩⟩
theorem least2 {P : Nat → Nat → Prop} (h : ∃ k j, P k j) : ∃ k j, P k j ∧ ∀ k' j', P k' j' → ¬lt2 (k', j') (k, j) := by
 obtain ⟨k, hk, hmin⟩ := least1 h
 obtain ⟨j, hj, hjm⟩ := least1 hk
 refine ⟨k, j, hj, fun k' j' hp z => ?_⟩
 rcases z with z | ⟨z1, z2⟩
 ·exact hmin k' z ⟨j', hp⟩
 ·dsimp only at z1 z2
  subst z1
  exact hjm j' z2 hp
theorem best_ex (a b : List α) : ∀ (n i j : Nat), lcs (a.drop i) (b.drop j) ≤ n → i ≤ a.length → j ≤ b.length → ∃ l, Best a b i j l
 | n, i, j, hn, hi, hj => by
  by_cases h0 : lcs (a.drop i) (b.drop j) = 0
  ·exact ⟨[], .nil h0⟩
  ·obtain ⟨k, m, h1, h2, h3, h4, h5, h6⟩ := lcs_pair a b (a.length + b.length) i j (by omega) hi hj (by omega)
   obtain ⟨k, m, g3, g4⟩ := least2 (P := fun k m => Val a b i j k m) ⟨k, m, h1, h2, h3, h4, h5, h6⟩
   have g1 := g3.hk
   have g2 := g3.hm
   cases n with
   | zero => omega
   | succ n =>
    obtain ⟨t, ht⟩ := best_ex a b n (k + 1) (m + 1) (by have := g3.hs; omega) (by omega) (by omega)
    exact ⟨_, ht.cons g3 fun k' m' v => g4 k' m' v⟩
open Classical in
noncomputable def kp (a b : List α) (i j : Nat) : List (Nat × Nat) := if h : i ≤ a.length ∧ j ≤ b.length then (best_ex a b _ i j (Nat.le_refl _) h.1 h.2).choose else []
theorem kp_best {a b : List α} {i j : Nat} (h1 : i ≤ a.length) (h2 : j ≤ b.length) : Best a b i j (kp a b i j) := by
 unfold kp
 rw [dif_pos ⟨h1, h2⟩]
 exact (best_ex a b _ i j (Nat.le_refl _) h1 h2).choose_spec
theorem kp_len {a b : List α} {i j : Nat} (h1 : i ≤ a.length) (h2 : j ≤ b.length) : (kp a b i j).length = lcs (a.drop i) (b.drop j) := (kp_best h1 h2).len
def tabG (n m : Nat) (f : Nat → Nat → β) : List (List β) := (List.range n).map fun i => (List.range m).map fun j => f i j
def putG (f : Nat → Nat → β) (i j : Nat) (x : β) : Nat → Nat → β := fun i' j' => if i' = i ∧ j' = j then x else f i' j'
theorem tabG_row {n m : Nat} {f : Nat → Nat → β} {i : Nat} (h : i < n) : atL (tabG n m f) (i : Int) = .ok ((List.range m).map fun j => f i j) := by
 refine atL_in (by omega) ?_
 unfold tabG
 rw [Int.toNat_natCast, List.getElem?_map, List.getElem?_range h]; rfl
theorem rowG_at {m : Nat} {g : Nat → β} {j : Nat} (h : j < m) : atL ((List.range m).map g) (j : Int) = .ok (g j) := by
 refine atL_in (by omega) ?_
 rw [Int.toNat_natCast, List.getElem?_map, List.getElem?_range h]; rfl
theorem tabG_at {n m : Nat} {f : Nat → Nat → β} {i j : Nat} (h : i < n) (h2 : j < m) : (nb (atL (tabG n m f) (i : Int)) fun r => atL r (j : Int)) = .ok (f i j) := by
 rw [tabG_row h, nb_ok, rowG_at h2]
theorem tabG_put {n m : Nat} {f : Nat → Nat → β} {i j : Nat} {x : β} (h : i < n) (h2 : j < m) : setII (tabG n m f) (i : Int) (j : Int) x = .ok (tabG n m (putG f i j x)) := by
 unfold setII
 rw [tabG_row h, nb_ok, setI_in (by omega) (by rw [List.length_map, List.length_range]; omega), nb_ok, setI_in (by omega) (by unfold tabG; rw [List.length_map, List.length_range]; omega)]
 congr 1
 rw [Int.toNat_natCast, Int.toNat_natCast]
 have er : ∀ (g : Nat → Nat → β) (k : Nat) (h : k < (tabG n m g).length), (tabG n m g)[k] = (List.range m).map fun j => g k j := fun g k h => by simp [tabG]
 refine List.ext_getElem (by simp [tabG]) fun k g1 g2 => ?_
 rw [List.getElem_set, er _ k g2]
 split
 ·rename_i e
  subst e
  refine List.ext_getElem (by simp) fun q w1 w2 => ?_
  rw [List.getElem_set]
  simp only [List.getElem_map, List.getElem_range, putG, true_and]
  by_cases e : j = q
  ·rw [if_pos e, if_pos e.symm]
  ·rw [if_neg e, if_neg (fun z => e z.symm)]
 ·rename_i e
  rw [er]
  refine List.map_congr_left fun q _ => ?_
  simp only [putG]
  rw [if_neg (fun z => e z.1.symm)]
theorem tabG_congr {n m : Nat} {f g : Nat → Nat → β} (h : ∀ i j, i < n → j < m → f i j = g i j) : tabG n m f = tabG n m g := by
 unfold tabG
 refine List.map_congr_left fun i hi => List.map_congr_left fun j hj => ?_
 exact h i j (List.mem_range.mp hi) (List.mem_range.mp hj)
theorem fill {n m : Nat} {V : Nat → Nat → β} {z : β} {is : List Int} (hn : n ≤ 1000000) (hm : m ≤ 1000000) (his : rn3 ((n : Int) - 1) (-1) (-1) = .ok is) (hz : ∀ i j, i ≤ n → j ≤ m → (i = n ∨ j = m) → V i j = z) {cell : Int → Int → List (List β) → Res (List (List β))}
  (hc : ∀ (i j : Nat) (f : Nat → Nat → β), i < n → j < m → f (i + 1) j = V (i + 1) j → f i (j + 1) = V i (j + 1) → f (i + 1) (j + 1) = V (i + 1) (j + 1) → cell (i : Int) (j : Int) (tabG (n + 1) (m + 1) f) = .ok (tabG (n + 1) (m + 1) (putG f i j (V i j)))) :
  fo (fun (i : Int) (t : List (List β)) => (nb (rn3 ((m : Int) - 1) (-1) (-1)) fun (js : List Int) => Res.bind (fo (fun (j : Int) (t : List (List β)) => cell i j t) js t) fun t => .ok t : Res (List (List β)))) is (tabG (n + 1) (m + 1) fun _ _ => z) = .ok (tabG (n + 1) (m + 1) V) := by
 rw [rn3_down (by omega)] at his
 cases his
 obtain ⟨t, h1, h2⟩ := fo_inv (xs := (List.range n).map fun (i : Nat) => ((n - 1 - i : Nat) : Int)) (s := tabG (n + 1) (m + 1) fun _ _ => z) (body := fun (i : Int) (t : List (List β)) => (nb (rn3 ((m : Int) - 1) (-1) (-1)) fun (js : List Int) => Res.bind (fo (fun (j : Int) (t : List (List β)) => cell i j t) js t) fun t => .ok t : Res (List (List β))))
  (fun k t => ∃ f, t = tabG (n + 1) (m + 1) f ∧ (∀ i j, i ≤ n → j ≤ m → n ≤ i + k → f i j = V i j) ∧ ∀ i j, i + k < n → f i j = z) ⟨fun _ _ => z, rfl, fun i j hi hj h => (hz i j hi hj (.inl (by omega))).symm, fun _ _ _ => rfl⟩ (by
  rintro k x t hx ⟨f, rfl, hf, hf0⟩
  obtain ⟨hk, rfl⟩ : k < n ∧ x = ((n - 1 - k : Nat) : Int) := by
   rw [List.getElem?_map] at hx
   obtain ⟨q, h1, h2⟩ := Option.map_eq_some_iff.mp hx
   obtain ⟨h3, h4⟩ := List.getElem?_eq_some_iff.mp h1
   rw [List.getElem_range] at h4
   rw [List.length_range] at h3
   subst h4
   exact ⟨h3, h2.symm⟩
  obtain ⟨i, hi⟩ : ∃ i, i + k + 1 = n := ⟨n - 1 - k, by omega⟩
  rw [show n - 1 - k = i by omega]
  rw [rn3_down (by omega), nb_ok]
  obtain ⟨t', h1, f', rfl, hf', hf0'⟩ := fo_inv (xs := (List.range m).map fun (j : Nat) => ((m - 1 - j : Nat) : Int)) (s := tabG (n + 1) (m + 1) f) (body := fun (j : Int) (t : List (List β)) => cell (i : Int) j t)
   (fun q t => ∃ f', t = tabG (n + 1) (m + 1) f' ∧ (∀ i' j', i' ≤ n → j' ≤ m → (i < i' ∨ (i' = i ∧ m ≤ j' + q)) → f' i' j' = V i' j') ∧ ∀ i' j', i' < i → f' i' j' = z) ⟨f, rfl, fun i' j' hi' hj' h => by
    rcases h with h | ⟨rfl, h⟩
    ·exact hf i' j' hi' hj' (by omega)
    ·rw [hf0 i' j' (by omega), hz i' j' hi' hj' (.inr (by omega))], fun i' j' h => hf0 i' j' (by omega)⟩ (by
   rintro q x t hx ⟨f', rfl, hf', hf0'⟩
   obtain ⟨hq, rfl⟩ : q < m ∧ x = ((m - 1 - q : Nat) : Int) := by
    rw [List.getElem?_map] at hx
    obtain ⟨q, h1, h2⟩ := Option.map_eq_some_iff.mp hx
    obtain ⟨h3, h4⟩ := List.getElem?_eq_some_iff.mp h1
    rw [List.getElem_range] at h4
    rw [List.length_range] at h3
    subst h4
    exact ⟨h3, h2.symm⟩
   obtain ⟨j, hj⟩ : ∃ j, j + q + 1 = m := ⟨m - 1 - q, by omega⟩
   rw [show m - 1 - q = j by omega]
   refine ⟨_, hc i j f' (by omega) (by omega) (hf' _ _ (by omega) (by omega) (.inl (by omega))) (hf' _ _ (by omega) (by omega) (.inr ⟨rfl, by omega⟩)) (hf' _ _ (by omega) (by omega) (.inl (by omega))), _, rfl, fun i' j' hi' hj' h => ?_, fun i' j' h => ?_⟩
   ·unfold putG
    by_cases e : i' = i ∧ j' = j
    ·rw [if_pos e, e.1, e.2]
    ·rw [if_neg e]
     exact hf' i' j' hi' hj' (by
      rcases h with h | ⟨h1, h2⟩
      ·exact .inl h
      ·exact .inr ⟨h1, by
        have : j' ≠ j := fun z => e ⟨h1, z⟩
        omega⟩)
   ·unfold putG
    rw [if_neg (fun z => by omega)]
    exact hf0' i' j' h)
  rw [h1, Res.bind_ok]
  rw [List.length_map, List.length_range] at hf'
  exact ⟨_, rfl, f', rfl, fun i' j' hi' hj' h => hf' i' j' hi' hj' (by
   rcases Nat.lt_or_ge i i' with z | z
   ·exact .inl z
   ·exact .inr ⟨by omega, by omega⟩), fun i' j' h => hf0' i' j' (by omega)⟩)
 rw [h1]
 obtain ⟨f, rfl, hf, _⟩ := h2
 rw [List.length_map, List.length_range] at hf
 congr 1
 exact tabG_congr fun i j hi hj => hf i j (by omega) (by omega) (by omega)
theorem findSome_at {g : α → Option R} : ∀ {xs : List α} {r : R}, xs.findSome? g = some r → ∃ (i : Nat) (x : α), xs[i]? = some x ∧ g x = some r ∧ ∀ (i' : Nat) (y : α), i' < i → xs[i']? = some y → g y = none
 | [], _, h => by cases h
 | x :: xs, r, h => by
  rw [List.findSome?_cons] at h
  cases e : g x with
  | some q =>
   rw [e] at h
   cases h
   exact ⟨0, x, rfl, e, fun i' y hi => by omega⟩
  | none =>
   rw [e] at h
   obtain ⟨i, y, h1, h2, h3⟩ := findSome_at h
   refine ⟨i + 1, y, by simpa using h1, h2, fun i' z hi hz => ?_⟩
   cases i' with
   | zero => simp at hz; rw [← hz]; exact e
   | succ i' => exact h3 i' z (by omega) (by simpa using hz)
end
end FL
namespace FL
open PySem PySem.Spec PyProof.Rows L2
noncomputable def F_most_kept (old_ : (List Str)) (new_ : (List Str)) : Res (List (List Int)) :=
 nb (rn1 ((old_.length : Int) + 1)) fun (t_ : (List Int)) =>
 nb (comp (fun (line_ : Int) => .ok true) (fun (line_ : Int) => (nb (rn1 ((new_.length : Int) + 1)) fun (t_1 : (List Int)) => .ok (t_1.map fun (place_ : Int) => 0) : Res (List Int))) t_) fun (table_ : (List (List Int))) =>
 nb (rn3 ((old_.length : Int) - 1) (-1) (-1)) fun (t_3 : (List Int)) =>
 Res.bind (fo (fun (i_ : Int) (table_1 : (List (List Int))) => (nb (rn3 ((new_.length : Int) - 1) (-1) (-1)) fun (t_4 : (List Int)) =>
 Res.bind (fo (fun (j_ : Int) (table_2 : (List (List Int))) => (nb (nb (atL table_2 (i_ + 1)) fun r => atL r j_) fun (t_5 : Int) =>
 nb (nb (atL table_2 i_) fun r => atL r (j_ + 1)) fun (t_6 : Int) =>
 nb (setII table_2 i_ j_ (max t_5 t_6)) fun (table_3 : (List (List Int))) =>
 nb (atL old_ i_) fun (t_7 : Str) =>
 nb (atL new_ j_) fun (t_8 : Str) =>
 Res.bind (if (decide (t_7 = t_8)) = true then nb (nb (atL table_3 i_) fun r => atL r j_) fun (t_9 : Int) =>
 nb (nb (atL table_3 (i_ + 1)) fun r => atL r (j_ + 1)) fun (t_10 : Int) =>
 nb (setII table_3 i_ j_ (max t_9 (t_10 + 1))) fun (table_4 : (List (List Int))) =>
 .ok table_4 else .ok table_3 : Res (List (List Int))) fun (table_5 : (List (List Int))) =>
 .ok table_5 : Res (List (List Int)))) t_4 table_1) fun (table_6 : (List (List Int))) =>
 .ok table_6 : Res (List (List Int)))) t_3 table_) fun (table_7 : (List (List Int))) =>
 .ok table_7
noncomputable def F_first_pair (old_ : (List Str)) (new_ : (List Str)) (table_ : (List (List Int))) (i_ : Int) (j_ : Int) : Res (Option (Int × Int)) :=
 nb (rn2 i_ (old_.length : Int)) fun (t_ : (List Int)) =>
 Res.bind (lp (fun (one_ : Int) (s_ : Unit) => (nb (rn2 j_ (new_.length : Int)) fun (t_1 : (List Int)) =>
 Res.bind (lp (fun (other_ : Int) (s_1 : Unit) => (nb (atL old_ one_) fun (t_2 : Str) =>
 nb (atL new_ other_) fun (t_3 : Str) =>
 nb (if (decide (t_2 = t_3)) = true then nb (atL table_ (one_ + 1)) fun (t_4 : (List Int)) => nb (atL t_4 (other_ + 1)) fun (t_5 : Int) => nb (atL table_ i_) fun (t_6 : (List Int)) => nb (atL t_6 j_) fun (t_7 : Int) => .ok (decide ((t_5 + 1) = t_7)) else .ok false) fun (t_8 : Bool) =>
 if t_8 = true then
 (.ok (.rt (some (one_, other_))))
 else
 (.ok (.nx ())) : Res (Fl Unit (Option (Int × Int))))) t_1 ()) fun o => fin o (fun (s_2 : Unit) =>
 .ok (.nx ())) (fun r => .ok (.rt r)) : Res (Fl Unit (Option (Int × Int))))) t_ ()) fun o => fin o (fun (s_3 : Unit) =>
 .ok none) (fun r => .ok r)
noncomputable def F_kept_by (old_ : (List Str)) (new_ : (List Str)) : Res (List (Int × Int)) :=
 nb (F_most_kept old_ new_) fun (table_ : (List (List Int))) =>
 nb (.ok ([] : (List (Int × Int)))) fun (found_ : (List (Int × Int))) =>
 nb (.ok 0) fun (i_ : Int) =>
 nb (.ok 0) fun (j_ : Int) =>
 nb (wh (fun (s_ : ((List (Int × Int)) × Int × Int)) => nb (atL table_ s_.2.1) fun (t_1 : (List Int)) => nb (atL t_1 s_.2.2) fun (t_2 : Int) => .ok (decide (0 < t_2))) (fun (s_ : ((List (Int × Int)) × Int × Int)) => (nb (F_first_pair old_ new_ table_ s_.2.1 s_.2.2) fun (t_3 : (Option (Int × Int))) =>
 nb (oget t_3) fun (pair_ : (Int × Int)) =>
 nb (snoc s_.1 pair_) fun (found_1 : (List (Int × Int))) =>
 nb (.ok (pair_.1 + 1)) fun (i_1 : Int) =>
 nb (.ok (pair_.2 + 1)) fun (j_1 : Int) =>
 .ok (.nx (found_1, i_1, j_1)) : Res (Fl ((List (Int × Int)) × Int × Int) (List (Int × Int))))) (found_, i_, j_)) fun o => fin o (fun (s_1 : ((List (Int × Int)) × Int × Int)) =>
 .ok s_1.1) (fun r => .ok r)
noncomputable def F__law_pairs (old_ : (List Str)) (new_ : (List Str)) : Res (List (Int × Int)) :=
 nb (rn1 ((old_.length : Int) + 1)) fun (t_ : (List Int)) =>
 nb (comp (fun (line_ : Int) => .ok true) (fun (line_ : Int) => (nb (rn1 ((new_.length : Int) + 1)) fun (t_1 : (List Int)) => .ok (t_1.map fun (place_ : Int) => ([] : (List (Int × Int)))) : Res (List (List (Int × Int))))) t_) fun (table_ : (List (List (List (Int × Int))))) =>
 nb (rn3 ((old_.length : Int) - 1) (-1) (-1)) fun (t_3 : (List Int)) =>
 Res.bind (fo (fun (i_ : Int) (table_1 : (List (List (List (Int × Int))))) => (nb (rn3 ((new_.length : Int) - 1) (-1) (-1)) fun (t_4 : (List Int)) =>
 Res.bind (fo (fun (j_ : Int) (table_2 : (List (List (List (Int × Int))))) => (nb (nb (atL table_2 (i_ + 1)) fun r => atL r j_) fun (t_5 : (List (Int × Int))) =>
 nb (nb (atL table_2 i_) fun r => atL r (j_ + 1)) fun (t_6 : (List (Int × Int))) =>
 nb (.ok [t_5, t_6]) fun (some_ : (List (List (Int × Int)))) =>
 nb (atL old_ i_) fun (t_7 : Str) =>
 nb (atL new_ j_) fun (t_8 : Str) =>
 Res.bind (if (decide (t_7 = t_8)) = true then nb (nb (atL table_2 (i_ + 1)) fun r => atL r (j_ + 1)) fun (t_9 : (List (Int × Int))) =>
 nb (cat [(i_, j_)] t_9) fun (t_10 : (List (Int × Int))) =>
 nb (snoc some_ t_10) fun (some_1 : (List (List (Int × Int)))) =>
 .ok some_1 else .ok some_ : Res (List (List (Int × Int)))) fun (some_2 : (List (List (Int × Int)))) =>
 nb (maxL (some_2.map fun (one_ : (List (Int × Int))) => (one_.length : Int))) fun (most_ : Int) =>
 nb (minB (ltL (ltT2 ltI ltI)) (some_2.filter fun (one_1 : (List (Int × Int))) => (decide ((one_1.length : Int) = most_)))) fun (t_12 : (List (Int × Int))) =>
 nb (setII table_2 i_ j_ t_12) fun (table_3 : (List (List (List (Int × Int))))) =>
 .ok table_3 : Res (List (List (List (Int × Int)))))) t_4 table_1) fun (table_4 : (List (List (List (Int × Int))))) =>
 .ok table_4 : Res (List (List (List (Int × Int)))))) t_3 table_) fun (table_5 : (List (List (List (Int × Int))))) =>
 nb (atL table_5 0) fun (t_13 : (List (List (Int × Int)))) =>
 nb (atL t_13 0) fun (t_14 : (List (Int × Int))) =>
 .ok t_14
theorem rn1_succ {n : Nat} (h : n ≤ 16777215) : rn1 ((n : Int) + 1) = .ok ((List.range (n + 1)).map fun (i : Nat) => (i : Int)) := by
 rw [show (n : Int) + 1 = ((n + 1 : Nat) : Int) by omega]
 exact rn1_nat (by omega)
theorem tab0 {β : Type} (N M : Nat) (z : β) : (((List.range N).map fun (i : Nat) => (i : Int)).map fun _ => ((List.range M).map fun (i : Nat) => (i : Int)).map fun _ => z) = tabG N M fun _ _ => z := by
 unfold tabG
 rw [List.map_map]
 refine List.map_congr_left fun i _ => ?_
 show List.map _ _ = _
 rw [List.map_map]; rfl
theorem atL_n {α : Type} {l : List α} {i : Nat} {x : α} (h : l[i]? = some x) : atL l (i : Int) = .ok x := atL_in (by omega) (by rw [Int.toNat_natCast]; exact h)
theorem putG_put {β : Type} (f : Nat → Nat → β) (i j : Nat) (x y : β) : putG (putG f i j x) i j y = putG f i j y := by
 funext a b
 unfold putG
 split <;> rfl
theorem putG_at {β : Type} (f : Nat → Nat → β) (i j : Nat) (x : β) : putG f i j x i j = x := if_pos ⟨rfl, rfl⟩
theorem putG_ne {β : Type} (f : Nat → Nat → β) {i j i' j' : Nat} (x : β) (h : ¬(i' = i ∧ j' = j)) : putG f i j x i' j' = f i' j' := if_neg h
section
variable {a b : List Str}
theorem lcs_rec {i j : Nat} (h1 : i < a.length) (h2 : j < b.length) : lcs (a.drop i) (b.drop j) = if a[i] = b[j] then max (max (lcs (a.drop (i + 1)) (b.drop j)) (lcs (a.drop i) (b.drop (j + 1)))) (lcs (a.drop (i + 1)) (b.drop (j + 1)) + 1) else max (lcs (a.drop (i + 1)) (b.drop j)) (lcs (a.drop i) (b.drop (j + 1))) := by
 have e := lcs_cons a[i] b[j] (a.drop (i + 1)) (b.drop (j + 1))
 rw [← List.drop_eq_getElem_cons h1, ← List.drop_eq_getElem_cons h2] at e
 exact e
theorem lcs_end {i j : Nat} (h : i = a.length ∨ j = b.length) : lcs (a.drop i) (b.drop j) = 0 := by
 rcases h with rfl | rfl
 ·rw [List.drop_length, lcs_nil']
 ·rw [List.drop_length, lcs_nil]
theorem most_kept_ok (ha : a.length ≤ 1000000) (hb : b.length ≤ 1000000) : F_most_kept a b = .ok (tabG (a.length + 1) (b.length + 1) fun i j => (lcs (a.drop i) (b.drop j) : Int)) := by
 unfold F_most_kept
 rw [rn1_succ (by omega), nb_ok, comp_map (q' := fun _ => ((List.range (b.length + 1)).map fun (i : Nat) => (i : Int)).map fun _ => (0 : Int)) ?_, nb_ok, tab0, rn3_down (by omega), nb_ok, fill (V := fun i j => (lcs (a.drop i) (b.drop j) : Int)) (z := 0) ha hb (rn3_down (by omega)) ?_ ?_]
 ·rfl
 ·intro i j _ _ h
  rw [lcs_end h]; rfl
 ·intro i j f hi hj e1 e2 e3
  rw [show (i : Int) + 1 = ((i + 1 : Nat) : Int) by omega, show (j : Int) + 1 = ((j + 1 : Nat) : Int) by omega]
  rw [tabG_at (by omega) (by omega), nb_ok, tabG_at (by omega) (by omega), nb_ok, tabG_put (by omega) (by omega), nb_ok, atL_n (List.getElem?_eq_getElem hi), nb_ok, atL_n (List.getElem?_eq_getElem hj), nb_ok]
  rw [lcs_rec hi hj]
  by_cases h : a[i] = b[j]
  ·rw [ite_t h, if_pos h, tabG_at (by omega) (by omega), nb_ok, tabG_at (by omega) (by omega), nb_ok, tabG_put (by omega) (by omega), nb_ok, Res.bind_ok, putG_put, putG_at, putG_ne _ _ (by omega), e1, e2, e3]
   congr 3
   omega
  ·rw [ite_f h, if_neg h, Res.bind_ok, e1, e2]
   congr 3
   omega
 ·intro x _
  rw [rn1_succ (by omega), nb_ok]
theorem lp_findO {α R : Type} {body : α → Unit → Res (Fl Unit (Option R))} {g : α → Option R} : ∀ {xs : List α}, (∀ x ∈ xs, body x () = .ok (match g x with | some r => .rt (some r) | none => .nx ())) → lp body xs () = .ok (match xs.findSome? g with | some r => .rt (some r) | none => .nx ())
 | [], _ => rfl
 | x :: xs, h => by
  unfold lp
  rw [h x List.mem_cons_self, Res.bind_ok, List.findSome?_cons]
  cases e : g x with
  | some r => rfl
  | none => exact lp_findO fun y hy => h y (List.mem_cons_of_mem _ hy)
theorem first_pair_ok (ha : a.length ≤ 1000000) (hb : b.length ≤ 1000000) {i j : Nat} (hi : i ≤ a.length) (hj : j ≤ b.length) (h0 : 0 < lcs (a.drop i) (b.drop j)) :
  ∃ k m, F_first_pair a b (tabG (a.length + 1) (b.length + 1) fun i j => (lcs (a.drop i) (b.drop j) : Int)) (i : Int) (j : Int) = .ok (some (ii (k, m))) ∧ Val a b i j k m ∧ ∀ k' m', Val a b i j k' m' → ¬lt2 (k', m') (k, m) := by
 let g2 : Nat → Nat → Option (Int × Int) := fun k m => if a[k]? = b[m]? ∧ lcs (a.drop (k + 1)) (b.drop (m + 1)) + 1 = lcs (a.drop i) (b.drop j) then some (ii (k, m)) else none
 let g1 : Nat → Option (Int × Int) := fun k => ((List.range (b.length - j)).map fun (q : Nat) => j + q).findSome? (g2 k)
 have e : F_first_pair a b (tabG (a.length + 1) (b.length + 1) fun i j => (lcs (a.drop i) (b.drop j) : Int)) (i : Int) (j : Int) = .ok (((List.range (a.length - i)).map fun (q : Nat) => i + q).findSome? g1) := by
  unfold F_first_pair
  have hout : ((List.range (a.length - i)).map fun (q : Nat) => ((i + q : Nat) : Int)).findSome? (fun (x : Int) => g1 x.toNat) = ((List.range (a.length - i)).map fun (q : Nat) => i + q).findSome? g1 := by
   rw [List.findSome?_map, List.findSome?_map]; rfl
  rw [rn2_nat (by omega) (by omega), nb_ok, lp_findO (g := fun (x : Int) => g1 x.toNat) ?_, Res.bind_ok, hout]
  ·cases ((List.range (a.length - i)).map fun (q : Nat) => i + q).findSome? g1 <;> rfl
  ·intro x hx
   obtain ⟨q, hq, rfl⟩ := List.mem_map.mp hx
   rw [List.mem_range] at hq
   have hin : ((List.range (b.length - j)).map fun (p : Nat) => ((j + p : Nat) : Int)).findSome? (fun (y : Int) => g2 (i + q) y.toNat) = g1 (i + q) := by
    show _ = ((List.range (b.length - j)).map fun (q : Nat) => j + q).findSome? (g2 (i + q))
    rw [List.findSome?_map, List.findSome?_map]; rfl
   rw [rn2_nat (by omega) (by omega), nb_ok, lp_findO (g := fun (y : Int) => g2 (i + q) y.toNat) ?_, Res.bind_ok, hin, Int.toNat_natCast]
   ·cases g1 (i + q) <;> rfl
   ·intro y hy
    obtain ⟨p, hp, rfl⟩ := List.mem_map.mp hy
    rw [List.mem_range] at hp
    rw [Int.toNat_natCast, show ((i + q : Nat) : Int) + 1 = ((i + q + 1 : Nat) : Int) by omega, show ((j + p : Nat) : Int) + 1 = ((j + p + 1 : Nat) : Int) by omega]
    have h1 : i + q < a.length := by omega
    have h2 : j + p < b.length := by omega
    rw [atL_n (List.getElem?_eq_getElem h1), nb_ok, atL_n (List.getElem?_eq_getElem h2), nb_ok]
    have hg : g2 (i + q) (j + p) = if a[i + q]? = b[j + p]? ∧ lcs (a.drop (i + q + 1)) (b.drop (j + p + 1)) + 1 = lcs (a.drop i) (b.drop j) then some (ii (i + q, j + p)) else none := rfl
    rw [hg]
    by_cases h : a[i + q] = b[j + p]
    ·rw [ite_t h, tabG_row (by omega), nb_ok, rowG_at (by omega), nb_ok, tabG_row (by omega), nb_ok, rowG_at (by omega), nb_ok, nb_ok]
     by_cases h3 : lcs (a.drop (i + q + 1)) (b.drop (j + p + 1)) + 1 = lcs (a.drop i) (b.drop j)
     ·rw [if_pos (decide_eq_true (by omega)), if_pos ⟨by rw [List.getElem?_eq_getElem h1, List.getElem?_eq_getElem h2, h], h3⟩]; rfl
     ·rw [if_neg (by rw [decide_eq_true_eq]; omega), if_neg (fun z => h3 z.2)]
    ·rw [ite_f h, nb_ok, if_neg Bool.false_ne_true, if_neg (fun z => h (by
      have := z.1
      rw [List.getElem?_eq_getElem h1, List.getElem?_eq_getElem h2] at this
      exact Option.some.inj this))]
 rw [e]
 have g2v : ∀ {k m : Nat} {r : Int × Int}, g2 k m = some r → r = ii (k, m) ∧ a[k]? = b[m]? ∧ lcs (a.drop (k + 1)) (b.drop (m + 1)) + 1 = lcs (a.drop i) (b.drop j) := fun {k m r} h => by
  have h : (if a[k]? = b[m]? ∧ lcs (a.drop (k + 1)) (b.drop (m + 1)) + 1 = lcs (a.drop i) (b.drop j) then some (ii (k, m)) else none) = some r := h
  split at h
  ·rename_i z; cases h; exact ⟨rfl, z⟩
  ·cases h
 have g2n : ∀ {k m : Nat}, Val a b i j k m → g2 k m ≠ none := fun {k m} v => by
  show (if a[k]? = b[m]? ∧ lcs (a.drop (k + 1)) (b.drop (m + 1)) + 1 = lcs (a.drop i) (b.drop j) then some (ii (k, m)) else none) ≠ none
  rw [if_pos ⟨v.he, v.hs⟩]; exact fun z => nomatch z
 have at1 : ∀ {n c q x : Nat}, ((List.range n).map fun (q : Nat) => c + q)[q]? = some x → q < n ∧ x = c + q := fun {n c q x} h => by
  rw [List.getElem?_map] at h
  obtain ⟨y, h1, h2⟩ := Option.map_eq_some_iff.mp h
  obtain ⟨h3, h4⟩ := List.getElem?_eq_some_iff.mp h1
  rw [List.getElem_range] at h4
  rw [List.length_range] at h3
  exact ⟨h3, by rw [← h2, ← h4]⟩
 have at2 : ∀ {n c q : Nat}, q < n → ((List.range n).map fun (q : Nat) => c + q)[q]? = some (c + q) := fun {n c q} h => by
  rw [List.getElem?_map, List.getElem?_range h]; rfl
 have g1n : ∀ {k m : Nat}, Val a b i j k m → g1 k ≠ none := fun {k m} v z => by
  have z : ((List.range (b.length - j)).map fun (q : Nat) => j + q).findSome? (g2 k) = none := z
  rw [List.findSome?_eq_none_iff] at z
  exact g2n v (z m (List.mem_of_getElem? (at2 (c := j) (q := m - j) (by have := v.hm; have := v.hj; omega) |>.trans (by rw [show j + (m - j) = m by have := v.hj; omega]))))
 cases e1 : ((List.range (a.length - i)).map fun (q : Nat) => i + q).findSome? g1 with
 | none =>
  exfalso
  obtain ⟨k, m, h1, h2, h3, h4, h5, h6⟩ := lcs_pair a b (a.length + b.length) i j (by omega) hi hj h0
  rw [List.findSome?_eq_none_iff] at e1
  exact g1n ⟨h1, h2, h3, h4, h5, h6⟩ (e1 k (List.mem_of_getElem? (at2 (c := i) (q := k - i) (by omega) |>.trans (by rw [show i + (k - i) = k by omega]))))
 | some r =>
  obtain ⟨q, x, h1, h2, h3⟩ := findSome_at e1
  obtain ⟨hq, rfl⟩ := at1 h1
  obtain ⟨p, y, h4, h5, h6⟩ := findSome_at (show ((List.range (b.length - j)).map fun (q : Nat) => j + q).findSome? (g2 (i + q)) = some r from h2)
  obtain ⟨hp, rfl⟩ := at1 h4
  obtain ⟨rfl, h7, h8⟩ := g2v h5
  refine ⟨i + q, j + p, rfl, ⟨by omega, by omega, by omega, by omega, h7, h8⟩, fun k' m' v z => ?_⟩
  have b1 := v.hi; have b2 := v.hj; have b3 := v.hk; have b4 := v.hm
  rcases z with z | ⟨z1, z2⟩
  ·dsimp only at z
   exact g1n v (h3 (k' - i) k' (by omega) (by rw [at2 (by omega), show i + (k' - i) = k' by omega]))
  ·dsimp only at z1 z2
   subst z1
   exact g2n v (h6 (m' - j) m' (by omega) (by rw [at2 (by omega), show j + (m' - j) = m' by omega]))
end
theorem wh_inv {σ R : Type} {c : σ → Res Bool} {body : σ → Res (Fl σ R)} (P : σ → Prop) (μ : σ → Nat) (hs : ∀ s, P s → c s = .ok false ∨ (c s = .ok true ∧ ∃ s', body s = .ok (.nx s') ∧ P s' ∧ μ s' < μ s)) {s : σ} (h0 : P s) : ∃ s', wh c body s = .ok (.nx s') ∧ P s' ∧ c s' = .ok false := by
 have key : ∀ (n : Nat) (s : σ), μ s ≤ n → P s → ∃ k s', whK c body k s = some (.ok (.nx s')) ∧ P s' ∧ c s' = .ok false := by
  intro n
  induction n with
  | zero =>
   intro s hn hp
   rcases hs s hp with h | ⟨h, s', h1, h2, h3⟩
   ·exact ⟨1, s, by unfold whK; rw [h], hp, h⟩
   ·omega
  | succ n ih =>
   intro s hn hp
   rcases hs s hp with h | ⟨h, s', h1, h2, h3⟩
   ·exact ⟨1, s, by unfold whK; rw [h], hp, h⟩
   ·obtain ⟨k, s2, a1, a2, a3⟩ := ih s' (by omega) h2
    exact ⟨k + 1, s2, by unfold whK; rw [h, h1]; exact a1, a2, a3⟩
 obtain ⟨k, s', a1, a2, a3⟩ := key (μ s) s (Nat.le_refl _) h0
 exact ⟨s', wh_of a1, a2, a3⟩
section
variable {a b : List Str}
theorem kp_cons {i j k m : Nat} (hi : i ≤ a.length) (hj : j ≤ b.length) (v : Val a b i j k m) (f : ∀ k' m', Val a b i j k' m' → ¬lt2 (k', m') (k, m)) : kp a b i j = (k, m) :: kp a b (k + 1) (m + 1) :=
 (kp_best hi hj).uniq (Best.cons v f (kp_best (by have := v.hk; omega) (by have := v.hm; omega)))
theorem kept_by_ok (ha : a.length ≤ 1000000) (hb : b.length ≤ 1000000) : F_kept_by a b = .ok ((kp a b 0 0).map ii) := by
 unfold F_kept_by
 rw [most_kept_ok ha hb, nb_ok, nb_ok, nb_ok, nb_ok]
 obtain ⟨s, h1, ⟨pre, i, j, rfl, hi, hj, hp⟩, h3⟩ := wh_inv (σ := (List (Int × Int)) × Int × Int) (R := List (Int × Int))
  (c := fun s_ => nb (atL (tabG (a.length + 1) (b.length + 1) fun i j => (lcs (a.drop i) (b.drop j) : Int)) s_.2.1) fun (t_1 : (List Int)) => nb (atL t_1 s_.2.2) fun (t_2 : Int) => .ok (decide (0 < t_2)))
  (body := fun s_ => (nb (F_first_pair a b (tabG (a.length + 1) (b.length + 1) fun i j => (lcs (a.drop i) (b.drop j) : Int)) s_.2.1 s_.2.2) fun (t_3 : (Option (Int × Int))) =>
 nb (oget t_3) fun (pair_ : (Int × Int)) =>
 nb (snoc s_.1 pair_) fun (found_1 : (List (Int × Int))) =>
 nb (.ok (pair_.1 + 1)) fun (i_1 : Int) =>
 nb (.ok (pair_.2 + 1)) fun (j_1 : Int) =>
 .ok (.nx (found_1, i_1, j_1))))
  (fun s => ∃ (pre : List (Nat × Nat)) (i j : Nat), s = (pre.map ii, (i : Int), (j : Int)) ∧ i ≤ a.length ∧ j ≤ b.length ∧ kp a b 0 0 = pre ++ kp a b i j) (fun s => lcs (a.drop s.2.1.toNat) (b.drop s.2.2.toNat)) (by
  rintro _ ⟨pre, i, j, rfl, hi, hj, hp⟩
  dsimp only
  rw [tabG_row (by omega), nb_ok, rowG_at (by omega), nb_ok]
  by_cases h0 : lcs (a.drop i) (b.drop j) = 0
  ·exact .inl (by rw [h0]; rfl)
  ·refine .inr ⟨by rw [decide_eq_true (by omega)], ?_⟩
   obtain ⟨k, m, e1, v, f⟩ := first_pair_ok ha hb hi hj (by omega)
   have b3 := v.hk; have b4 := v.hm
   have hc := kp_cons hi hj v f
   have hl : pre.length + (kp a b i j).length ≤ a.length := by
    have e := kp_len (a := a) (b := b) (i := 0) (j := 0) (by omega) (by omega)
    have e2 : lcs a b ≤ a.length := lcs_le a b
    rw [hp, List.length_append] at e
    simp only [List.drop_zero] at e
    omega
   rw [e1, nb_ok]
   show ∃ s', (nb (.ok (ii (k, m))) _) = _ ∧ _
   rw [nb_ok, snoc_ok (by rw [List.length_map]; omega), nb_ok, nb_ok, nb_ok]
   refine ⟨_, rfl, ⟨pre ++ [(k, m)], k + 1, m + 1, ?_, by omega, by omega, by rw [hp, hc, List.append_assoc]; rfl⟩, ?_⟩
   ·rw [List.map_append]; rfl
   ·show lcs (a.drop ((k : Int) + 1).toNat) (b.drop ((m : Int) + 1).toNat) < lcs (a.drop (i : Int).toNat) (b.drop (j : Int).toNat)
    rw [show ((k : Int) + 1).toNat = k + 1 by omega, show ((m : Int) + 1).toNat = m + 1 by omega, Int.toNat_natCast, Int.toNat_natCast]
    have := v.hs
    omega) (s := ([], 0, 0)) ⟨[], 0, 0, rfl, by omega, by omega, rfl⟩
 rw [h1, nb_ok]
 dsimp only at h3
 rw [tabG_row (by omega), nb_ok, rowG_at (by omega), nb_ok] at h3
 have h0 : lcs (a.drop i) (b.drop j) = 0 := by
  have := of_decide_eq_false (Res.ok.inj h3)
  omega
 have hn : kp a b i j = [] := (kp_best hi hj).uniq (.nil h0)
 rw [hp, hn, List.append_nil]; rfl
theorem Prs.weak {i j i' j' : Nat} {l : List (Nat × Nat)} (h : Prs a b i j l) (h1 : i' ≤ i) (h2 : j' ≤ j) : Prs a b i' j' l := by
 cases h with
 | nil => exact .nil _ _
 | cons a1 a2 a3 a4 a5 t => exact .cons (by omega) (by omega) a3 a4 a5 t
end
end FL
namespace FL
open PySem PySem.Spec PyProof.Rows L2
noncomputable def F_kept (old_ : (List Str)) (new_ : (List Str)) : Res (List (Int × Int)) :=
 Res.bind (F_check_two old_ new_) fun _ =>
 nb (F_kept_by old_ new_) fun (t_1 : (List (Int × Int))) =>
 .ok t_1
noncomputable def F_held (base_ : (List Str)) (one_ : (List Str)) (other_ : (List Str)) : Res (List (Int × Int × Int)) :=
 nb (F_kept base_ other_) fun (t_ : (List (Int × Int))) =>
 nb (.ok (dictA t_)) fun (theirs_ : (List (Int × Int))) =>
 nb (F_kept base_ one_) fun (t_1 : (List (Int × Int))) =>
 nb (comp (fun (p_ : (Int × Int)) => .ok ((theirs_.lookup p_.1).isSome)) (fun (p_ : (Int × Int)) => (nb (getK theirs_ p_.1) fun (t_2 : Int) => .ok (p_.1, p_.2, t_2) : Res (Int × Int × Int))) t_1) fun (t_3 : (List (Int × Int × Int))) =>
 .ok t_3
noncomputable def F_add_same (found_ : (List (Str × List (List Str)))) (lines_ : (List Str)) : Res (Unit × (List (Str × List (List Str)))) :=
 if (decide ((lines_.length : Int) = 0)) = true then
 (.ok ((), found_))
 else
 (nb (nb (if (decide (0 < (found_.length : Int))) = true then nb (atL found_ (-1)) fun (t_ : (Str × List (List Str))) => .ok (decide (t_.1 = ("same" : Str))) else .ok false) fun (t_1 : Bool) => .ok t_1) fun (t_2 : Bool) =>
 Res.bind (if t_2 = true then nb (popL found_) fun (p_ : ((Str × List (List Str)) × (List (Str × List (List Str))))) =>
 nb (atW p_.1 1) fun (t_3 : (List Str)) =>
 nb (cat t_3 lines_) fun (t_4 : (List Str)) =>
 .ok (p_.2, t_4) else .ok (found_, lines_) : Res ((List (Str × List (List Str))) × (List Str))) fun (s_ : ((List (Str × List (List Str))) × (List Str))) =>
 nb (snoc s_.1 (("same" : Str), [s_.2])) fun (found_1 : (List (Str × List (List Str)))) =>
 .ok ((), found_1))
noncomputable def F_add_stretch (found_ : (List (Str × List (List Str)))) (old_ : (List Str)) (mine_ : (List Str)) (theirs_ : (List Str)) : Res (Unit × (List (Str × List (List Str)))) :=
 if ((decide (old_ = mine_)) && (decide (old_ = theirs_))) = true then
 (nb (F_add_same found_ old_) fun (q_ : (Unit × (List (Str × List (List Str))))) =>
 .ok ((), q_.2))
 else
 (if (decide (old_ = mine_)) = true then
 (nb (snoc found_ (("other" : Str), [old_, theirs_])) fun (found_1 : (List (Str × List (List Str)))) =>
 .ok ((), found_1))
 else
 (if (decide (old_ = theirs_)) = true then
 (nb (snoc found_ (("one" : Str), [old_, mine_])) fun (found_2 : (List (Str × List (List Str)))) =>
 .ok ((), found_2))
 else
 (if (decide (mine_ = theirs_)) = true then
 (nb (snoc found_ (("both" : Str), [old_, mine_])) fun (found_3 : (List (Str × List (List Str)))) =>
 .ok ((), found_3))
 else
 (nb (snoc found_ (("clash" : Str), [old_, mine_, theirs_])) fun (found_4 : (List (Str × List (List Str)))) =>
 .ok ((), found_4)))))
noncomputable def F_pieces (base_ : (List Str)) (one_ : (List Str)) (other_ : (List Str)) : Res (List (Str × List (List Str))) :=
 Res.bind (fo (fun (row_ : (List Str)) (s_ : Unit) => (Res.bind (F_check_row row_) fun _ =>
 .ok () : Res Unit)) [base_, one_, other_] ()) fun (s_1 : Unit) =>
 nb (.ok ([] : (List (Str × List (List Str))))) fun (found_ : (List (Str × List (List Str)))) =>
 nb (F_held base_ one_ other_) fun (t_1 : (List (Int × Int × Int))) =>
 Res.bind (fo (fun (p_ : (Int × Int × Int)) (s_2 : ((List (Str × List (List Str))) × Int × Int × Int)) => (nb (F_add_stretch s_2.1 (cutL base_ (some s_2.2.1) (some p_.1)) (cutL one_ (some s_2.2.2.1) (some p_.2.1)) (cutL other_ (some s_2.2.2.2) (some p_.2.2))) fun (q_ : (Unit × (List (Str × List (List Str))))) =>
 nb (atL base_ p_.1) fun (t_2 : Str) =>
 nb (F_add_same q_.2 [t_2]) fun (q_1 : (Unit × (List (Str × List (List Str))))) =>
 nb (.ok (p_.1 + 1)) fun (a_ : Int) =>
 nb (.ok (p_.2.1 + 1)) fun (b_ : Int) =>
 nb (.ok (p_.2.2 + 1)) fun (c_ : Int) =>
 .ok (q_1.2, a_, b_, c_) : Res ((List (Str × List (List Str))) × Int × Int × Int))) t_1 (found_, 0, 0, 0)) fun (s_3 : ((List (Str × List (List Str))) × Int × Int × Int)) =>
 nb (F_add_stretch s_3.1 (cutL base_ (some s_3.2.1) none) (cutL one_ (some s_3.2.2.1) none) (cutL other_ (some s_3.2.2.2) none)) fun (q_2 : (Unit × (List (Str × List (List Str))))) =>
 .ok q_2.2
noncomputable def F_has_clash (told_ : (List (Str × List (List Str)))) : Res Bool :=
 .ok ((told_.map fun (piece_ : (Str × List (List Str))) => (decide (piece_.1 = ("clash" : Str)))).any id)
noncomputable def F_merged_lines (told_ : (List (Str × List (List Str)))) : Res (List Str) :=
 nb (.ok ([] : (List Str))) fun (found_ : (List Str)) =>
 Res.bind (fo (fun (piece_ : (Str × List (List Str))) (found_1 : (List Str)) => (nb (atW piece_ (-1)) fun (t_ : (List Str)) =>
 nb (cat found_1 t_) fun (found_2 : (List Str)) =>
 .ok found_2 : Res (List Str))) told_ found_) fun (found_3 : (List Str)) =>
 .ok found_3
noncomputable def F_as_row (lines_ : (List Str)) : Res (List Str) :=
 nb (nb (F_check_row lines_) fun (t_ : Unit) => .ok t_) fun (t_1 : Unit) =>
 .ok lines_
noncomputable def F_merged (told_ : (List (Str × List (List Str)))) : Res (List Str) :=
 nb (F_has_clash told_) fun (t_ : Bool) =>
 if t_ = true then
 (nb (.ok ([] : (List Int))) fun (a_ : (List Int)) => .ex ⟨"Clash", some ((eL eI) a_)⟩)
 else
 (nb (F_merged_lines told_) fun (t_1 : (List Str)) =>
 nb (F_as_row t_1) fun (q_ : (List Str)) =>
 .ok q_)
section
variable {a b c : List Str}
theorem kept_eq (ha : gr a) (hb : gr b) : F_kept a b = .ok ((kp a b 0 0).map ii) := by
 have h1 := ha.1
 have h2 := hb.1
 unfold F_kept
 rw [F_check_two_ok ha hb, Res.bind_ok, kept_by_ok (by omega) (by omega)]
 rfl
theorem kp_prs (a b : List Str) : Prs a b 0 0 (kp a b 0 0) := (kp_best (by omega) (by omega)).prs
theorem Prs.mem {i j : Nat} {l : List (Nat × Nat)} (h : Prs a b i j l) : ∀ p ∈ l, i ≤ p.1 ∧ j ≤ p.2 ∧ p.1 < a.length ∧ p.2 < b.length ∧ a[p.1]? = b[p.2]? := by
 induction h with
 | nil => exact fun p hp => nomatch hp
 | cons h1 h2 h3 h4 h5 t ih =>
  intro p hp
  rcases List.mem_cons.mp hp with rfl | hp
  ·exact ⟨h1, h2, h3, h4, h5⟩
  ·obtain ⟨z1, z2, z3⟩ := ih p hp
   exact ⟨by omega, by omega, z3⟩
theorem Prs.pw {i j : Nat} {l : List (Nat × Nat)} (h : Prs a b i j l) : l.Pairwise fun x y => x.1 < y.1 ∧ x.2 < y.2 := by
 induction h with
 | nil => exact .nil
 | cons h1 h2 h3 h4 h5 t ih =>
  refine List.pairwise_cons.mpr ⟨fun p hp => ?_, ih⟩
  obtain ⟨z1, z2, _⟩ := t.mem p hp
  exact ⟨z1, z2⟩
theorem lk_mem {l : List (Nat × Nat)} (h : l.Pairwise fun x y => x.1 < y.1 ∧ x.2 < y.2) {k v : Nat} : l.lookup k = some v ↔ (k, v) ∈ l := by
 induction l with
 | nil => exact ⟨fun z => (nomatch z), fun z => (nomatch z)⟩
 | cons x l ih =>
  obtain ⟨h1, h2⟩ := List.pairwise_cons.mp h
  rw [List.lookup_cons, List.mem_cons]
  by_cases e : k = x.1
  ·subst e
   rw [beq_self_eq_true]
   refine ⟨fun z => .inl (by cases z; rfl), fun z => z.elim (fun z => by rw [← z]) fun z => ?_⟩
   have := (h1 _ z).1
   exact absurd this (Nat.lt_irrefl _)
  ·rw [beq_false_of_ne e]
   refine ⟨fun z => .inr ((ih h2).mp z), fun z => z.elim (fun z => absurd (by rw [← z]) e) fun z => (ih h2).mpr z⟩
theorem lk_ii (l : List (Nat × Nat)) (k : Nat) : (l.map ii).lookup (k : Int) = (l.lookup k).map fun (v : Nat) => (v : Int) := by
 induction l with
 | nil => rfl
 | cons x l ih =>
  rw [List.map_cons, List.lookup_cons, List.lookup_cons]
  by_cases e : k = x.1
  ·subst e
   rw [show ((x.1 : Int) == (ii x).1) = true from beq_self_eq_true _, beq_self_eq_true]; rfl
  ·rw [show ((k : Int) == (ii x).1) = false from beq_false_of_ne fun z => e (by have : (k : Int) = (x.1 : Int) := z; omega), beq_false_of_ne e]
   exact ih
theorem pw_keys {l : List (Nat × Nat)} (h : l.Pairwise fun x y => x.1 < y.1 ∧ x.2 < y.2) : ((l.map ii).map (·.1)).Nodup := by
 rw [List.map_map]
 refine List.pairwise_map.mpr (h.imp fun {x y} q z => ?_)
 have : (x.1 : Int) = (y.1 : Int) := z
 omega
theorem fold_new {κ α : Type} [DecidableEq κ] : ∀ (l acc : List (κ × α)), ((acc ++ l).map (·.1)).Nodup → l.foldl (fun acc p => putA acc p.1 p.2) acc = acc ++ l
 | [], acc, _ => (List.append_nil acc).symm
 | p :: l, acc, h => by
  have hk : p.1 ∉ acc.map (·.1) := fun z => by
   rw [List.map_append, List.map_cons] at h
   exact (List.nodup_append.mp h).2.2 p.1 z p.1 List.mem_cons_self rfl
  rw [List.foldl_cons, show putA acc p.1 p.2 = acc ++ [p] by unfold putA; rw [if_neg hk], fold_new l (acc ++ [p]) (by rw [List.append_assoc]; exact h), List.append_assoc]
  rfl
theorem dictA_nd {κ α : Type} [DecidableEq κ] {l : List (κ × α)} (h : (l.map (·.1)).Nodup) : dictA l = l := fold_new l [] h
def hel (l m : List (Nat × Nat)) : List (Nat × Nat × Nat) := l.filterMap fun p => (m.lookup p.1).map fun k => (p.1, p.2, k)
def i3 (t : Nat × Nat × Nat) : Int × Int × Int := ((t.1 : Int), (t.2.1 : Int), (t.2.2 : Int))
inductive Trp (a b c : List Str) : Nat → Nat → Nat → List (Nat × Nat × Nat) → Prop
 | nil (i j k : Nat) : Trp a b c i j k []
 | cons {i j k p q r : Nat} {l : List (Nat × Nat × Nat)} (h1 : i ≤ p) (h2 : j ≤ q) (h3 : k ≤ r) (h4 : p < a.length) (h5 : q < b.length) (h6 : r < c.length) (h7 : a[p]? = b[q]?) (h8 : a[p]? = c[r]?) (t : Trp a b c (p + 1) (q + 1) (r + 1) l) : Trp a b c i j k ((p, q, r) :: l)
theorem Trp.weak {i j k i' j' k' : Nat} {l : List (Nat × Nat × Nat)} (h : Trp a b c i j k l) (h1 : i' ≤ i) (h2 : j' ≤ j) (h3 : k' ≤ k) : Trp a b c i' j' k' l := by
 cases h with
 | nil => exact .nil _ _ _
 | cons g1 g2 g3 g4 g5 g6 g7 g8 t => exact .cons (by omega) (by omega) (by omega) g4 g5 g6 g7 g8 t
theorem hel_trp {m : List (Nat × Nat)} (hm : Prs a c 0 0 m) {i j : Nat} {l : List (Nat × Nat)} (h : Prs a b i j l) : ∀ k, (∀ p v, i ≤ p → m.lookup p = some v → k ≤ v) → Trp a b c i j k (hel l m) := by
 have pw := hm.pw
 induction h with
 | nil => exact fun k _ => .nil _ _ _
 | @cons i j p q l h1 h2 h3 h4 h5 t ih =>
  intro k hk
  cases e : m.lookup p with
  | none =>
   rw [show hel ((p, q) :: l) m = hel l m by unfold hel; rw [List.filterMap_cons]; dsimp only; rw [e]; rfl]
   exact (ih k fun p' v hp e' => hk p' v (by omega) e').weak (by omega) (by omega) (Nat.le_refl _)
  | some v =>
   rw [show hel ((p, q) :: l) m = (p, q, v) :: hel l m by unfold hel; rw [List.filterMap_cons]; dsimp only; rw [e]; rfl]
   have mv := (lk_mem pw).mp e
   obtain ⟨_, _, z3, z4, z5⟩ := hm.mem _ mv
   refine .cons h1 h2 (hk p v (by omega) e) h3 h4 z4 h5 z5 (ih (v + 1) fun p' v' hp e' => ?_)
   have mv' := (lk_mem pw).mp e'
   obtain ⟨x, hx, ex⟩ := List.mem_iff_getElem.mp mv
   obtain ⟨y, hy, ey⟩ := List.mem_iff_getElem.mp mv'
   rcases Nat.lt_trichotomy x y with h | h | h
   ·have := (List.pairwise_iff_getElem.mp pw x y hx hy h).2
    rw [ex, ey] at this
    exact this
   ·subst h
    rw [ex] at ey
    cases ey
    omega
   ·have := (List.pairwise_iff_getElem.mp pw y x hy hx h).1
    rw [ex, ey] at this
    dsimp only at this
    omega
theorem held_ok (ha : gr a) (hb : gr b) (hc : gr c) : F_held a b c = .ok ((hel (kp a b 0 0) (kp a c 0 0)).map i3) := by
 have p1 := (kp_prs a c).pw
 unfold F_held
 rw [kept_eq ha hc, nb_ok, dictA_nd (pw_keys p1), nb_ok, kept_eq ha hb, nb_ok]
 generalize kp a b 0 0 = l
 generalize kp a c 0 0 = m
 rw [comp_ok (p := fun (p_ : Int × Int) => .ok ((m.map ii).lookup p_.1).isSome) (q := fun (p_ : Int × Int) => (nb (getK (m.map ii) p_.1) fun (t_2 : Int) => .ok (p_.1, p_.2, t_2) : Res (Int × Int × Int))) (p' := fun p => ((m.map ii).lookup p.1).isSome) (q' := fun p => (p.1, p.2, ((m.map ii).lookup p.1).getD 0)) (fun x hx => ⟨rfl, fun hs => by
  obtain ⟨v, hv⟩ := Option.isSome_iff_exists.mp hs
  (try dsimp only at hv); rw [show getK (m.map ii) x.1 = .ok v by unfold getK; rw [hv], nb_ok]; (try dsimp only); rw [hv]; rfl⟩), nb_ok]
 congr 1
 induction l with
 | nil => rfl
 | cons x l ih =>
  unfold hel at ih ⊢
  rw [List.map_cons, List.filter_cons, List.filterMap_cons]
  have e := lk_ii m x.1
  cases h : m.lookup x.1 with
  | none =>
   rw [h] at e
   rw [show (List.lookup (ii x).1 (m.map ii)) = none from e, if_neg (by decide)]
   exact ih
  | some v =>
   rw [h] at e
   rw [show (List.lookup (ii x).1 (m.map ii)) = some (v : Int) from e, if_pos (show (some (v : Int)).isSome = true from rfl), List.map_cons, ih, show (List.lookup (ii x).1 (m.map ii)) = some (v : Int) from e]
   rfl
end
end FL
namespace FL
open PySem PySem.Spec PyProof.Rows L2
inductive Pi | same (l : List Str) | one (o l : List Str) | other (o l : List Str) | both (o l : List Str) | clash (o m t : List Str)
deriving DecidableEq
def eP : Pi → Str × List (List Str)
 | .same l => ("same", [l])
 | .one o l => ("one", [o, l])
 | .other o l => ("other", [o, l])
 | .both o l => ("both", [o, l])
 | .clash o m t => ("clash", [o, m, t])
def eR (g : List Pi) : List (Str × List (List Str)) := g.reverse.map eP
def isS : Pi → Bool
 | .same _ => true
 | _ => false
def addS (g : List Pi) (l : List Str) : List Pi := if l = [] then g else match g with
 | .same x :: r => .same (x ++ l) :: r
 | g => .same l :: g
def addT (g : List Pi) (o m t : List Str) : List Pi := if o = m ∧ o = t then addS g o else if o = m then .other o t :: g else if o = t then .one o m :: g else if m = t then .both o m :: g else .clash o m t :: g
def seg (x : List Str) (i j : Nat) : List Str := (x.drop i).take (j - i)
def pcs (A B C : List Str) : List (Nat × Nat × Nat) → Nat → Nat → Nat → List Pi → List Pi
 | [], i, j, k, g => addT g (A.drop i) (B.drop j) (C.drop k)
 | (p, q, r) :: l, i, j, k, g => pcs A B C l (p + 1) (q + 1) (r + 1) (addS (addT g (seg A i p) (seg B j q) (seg C k r)) [lat A p])
def sd (w : Nat) : Pi → List Str
 | .same l => l
 | .one o l => if w = 1 then l else o
 | .other o l => if w = 2 then l else o
 | .both o l => if w = 0 then o else l
 | .clash o m t => if w = 0 then o else if w = 1 then m else t
def sds (w : Nat) : List Pi → List Str
 | [] => []
 | x :: g => sds w g ++ sd w x
theorem w_sc : ¬("same" : Str) = "clash" := by decide +kernel
theorem w_os : ¬("one" : Str) = "same" := by decide +kernel
theorem w_oc : ¬("one" : Str) = "clash" := by decide +kernel
theorem w_ts : ¬("other" : Str) = "same" := by decide +kernel
theorem w_tc : ¬("other" : Str) = "clash" := by decide +kernel
theorem w_bs : ¬("both" : Str) = "same" := by decide +kernel
theorem w_bc : ¬("both" : Str) = "clash" := by decide +kernel
theorem w_cs : ¬("clash" : Str) = "same" := by decide +kernel
theorem eR_cons (x : Pi) (g : List Pi) : eR (x :: g) = eR g ++ [eP x] := by unfold eR; rw [List.reverse_cons, List.map_append]; rfl
theorem eR_len (g : List Pi) : (eR g).length = g.length := by unfold eR; rw [List.length_map, List.length_reverse]
theorem atL_last {α : Type} (l : List α) (x : α) : atL (l ++ [x]) (-1) = .ok x := by
 have e : ixN (l ++ [x]).length (-1) = some l.length := by
  unfold ixN
  rw [if_neg (by decide), List.length_append, List.length_singleton, if_pos (by omega)]
  congr 1
  omega
 unfold atL L2.atI
 rw [e, Option.bind_some, List.getElem?_append_right (Nat.le_refl _), Nat.sub_self]
 rfl
theorem atW_s {α : Type} {w : Str} {l : List α} {k : Nat} {x : α} (h : l[k]? = some x) : atW (w, l) ((k : Int) + 1) = .ok x := by
 unfold atW
 rw [if_pos (by omega)]
 exact atL_in (by omega) (by rw [show ((k : Int) + 1 - 1).toNat = k by omega]; exact h)
theorem atW1 {α : Type} (w : Str) (x : α) (l : List α) : atW (w, x :: l) 1 = .ok x := atW_s (k := 0) rfl
theorem atW2 {α : Type} (w : Str) (x y : α) (l : List α) : atW (w, x :: y :: l) 2 = .ok y := atW_s (k := 1) rfl
theorem atW3 {α : Type} (w : Str) (x y z : α) (l : List α) : atW (w, x :: y :: z :: l) 3 = .ok z := atW_s (k := 2) rfl
theorem add_same_ok {g : List Pi} {l : List Str} (hg : g.length < 16777216) (h : ∀ x r, g = .same x :: r → x.length + l.length ≤ 16777216) : F_add_same (eR g) l = .ok ((), eR (addS g l)) := by
 unfold F_add_same addS
 by_cases hl : l = []
 ·rw [hl, if_pos (by rfl), if_pos rfl]
 ·have hp := List.length_pos_iff.mpr hl
  rw [ite_f (by omega), if_neg hl]
  have other : ∀ {t : Bool}, t = false → (nb (.ok t) fun (t_2 : Bool) =>
 Res.bind (if t_2 = true then nb (popL (eR g)) fun (p_ : ((Str × List (List Str)) × (List (Str × List (List Str))))) =>
 nb (atW p_.1 1) fun (t_3 : (List Str)) =>
 nb (cat t_3 l) fun (t_4 : (List Str)) =>
 .ok (p_.2, t_4) else .ok (eR g, l) : Res ((List (Str × List (List Str))) × (List Str))) fun (s_ : ((List (Str × List (List Str))) × (List Str))) =>
 nb (snoc s_.1 (("same" : Str), [s_.2])) fun (found_1 : (List (Str × List (List Str)))) =>
 .ok ((), found_1)) = .ok ((), eR (.same l :: g)) := by
   intro t ht
   rw [ht, nb_ok, if_neg (by decide), Res.bind_ok, snoc_ok (by rw [eR_len]; exact hg), nb_ok, eR_cons]
   rfl
  cases g with
  | nil =>
   rw [show (decide (0 < (((eR [] : List (Str × List (List Str))).length : Nat) : Int))) = false from rfl, if_neg (by decide), nb_ok]
   exact other rfl
  | cons x r =>
   have hlen : 0 < ((eR (x :: r)).length : Int) := by rw [eR_len, List.length_cons]; omega
   rw [ite_t hlen, eR_cons, atL_last, nb_ok, nb_ok]
   cases x with
   | same x =>
    rw [show decide ((eP (.same x)).1 = ("same" : Str)) = true from decide_eq_true rfl, nb_ok, if_pos rfl, popL_ok, nb_ok]
    rw [show atW (eP (.same x)) 1 = .ok x from atW1 _ _ _, nb_ok, cat_ok (h x r rfl), nb_ok, Res.bind_ok, snoc_ok (by rw [eR_len]; rw [List.length_cons] at hg; omega), nb_ok, eR_cons]
    rfl
   | one o m => rw [show decide ((eP (.one o m)).1 = ("same" : Str)) = false from decide_eq_false w_os, ← eR_cons]; exact other rfl
   | other o m => rw [show decide ((eP (.other o m)).1 = ("same" : Str)) = false from decide_eq_false w_ts, ← eR_cons]; exact other rfl
   | both o m => rw [show decide ((eP (.both o m)).1 = ("same" : Str)) = false from decide_eq_false w_bs, ← eR_cons]; exact other rfl
   | clash o m t => rw [show decide ((eP (.clash o m t)).1 = ("same" : Str)) = false from decide_eq_false w_cs, ← eR_cons]; exact other rfl
theorem add_stretch_ok {g : List Pi} {o m t : List Str} (hg : g.length < 16777216) (h : ∀ x r, g = .same x :: r → x.length + o.length ≤ 16777216) : F_add_stretch (eR g) o m t = .ok ((), eR (addT g o m t)) := by
 have hs : (eR g).length < 16777216 := by rw [eR_len]; exact hg
 unfold F_add_stretch addT
 by_cases h1 : o = m
 ·by_cases h2 : o = t
  ·rw [decide_eq_true h1, decide_eq_true h2, if_pos (show (true && true) = true from rfl), if_pos (And.intro h1 h2), add_same_ok hg h, nb_ok]
  ·rw [decide_eq_true h1, decide_eq_false h2, if_neg (show ¬((true && false) = true) from by decide), if_pos (show true = true from rfl), if_neg (show ¬(o = m ∧ o = t) from fun z => h2 z.2), if_pos h1, snoc_ok hs, nb_ok, eR_cons]; rfl
 ·rw [decide_eq_false h1, if_neg (show ¬((false && decide (o = t)) = true) from fun z => nomatch z), if_neg (show ¬(false = true) from by decide), if_neg (show ¬(o = m ∧ o = t) from fun z => h1 z.1), if_neg h1]
  by_cases h2 : o = t
  ·rw [ite_t h2, if_pos h2, snoc_ok hs, nb_ok, eR_cons]; rfl
  ·rw [ite_f h2, if_neg h2]
   by_cases h3 : m = t
   ·rw [ite_t h3, if_pos h3, snoc_ok hs, nb_ok, eR_cons]; rfl
   ·rw [ite_f h3, if_neg h3, snoc_ok hs, nb_ok, eR_cons]; rfl
def goodP : Pi → Prop
 | .same l => l ≠ []
 | .one o l => o ≠ l
 | .other o l => o ≠ l
 | .both o l => o ≠ l
 | .clash o m t => o ≠ m ∧ o ≠ t ∧ m ≠ t
def alt : List Pi → Prop
 | x :: y :: r => isS x ≠ isS y ∧ alt (y :: r)
 | _ => True
structure Gd (g : List Pi) : Prop where
 good : ∀ x ∈ g, goodP x
 alt : alt g
def sam : List Pi → Prop
 | [] => True
 | x :: _ => isS x = true
theorem addS_sd (w : Nat) (g : List Pi) (l : List Str) : sds w (addS g l) = sds w g ++ l := by
 unfold addS
 split
 ·rename_i h; rw [h, List.append_nil]
 ·cases g with
  | nil => rfl
  | cons x r => cases x <;> first | rfl | exact (List.append_assoc _ _ _).symm
theorem addT_sd (g : List Pi) (o m t : List Str) : sds 0 (addT g o m t) = sds 0 g ++ o ∧ sds 1 (addT g o m t) = sds 1 g ++ m ∧ sds 2 (addT g o m t) = sds 2 g ++ t := by
 unfold addT
 split
 ·rename_i h
  rw [addS_sd, addS_sd, addS_sd, ← h.1, ← h.2]
  exact ⟨rfl, rfl, rfl⟩
 ·split
  ·rename_i h; rw [← h]; exact ⟨rfl, rfl, rfl⟩
  ·split
   ·rename_i h; rw [← h]; exact ⟨rfl, rfl, rfl⟩
   ·split
    ·rename_i h; rw [← h]; exact ⟨rfl, rfl, rfl⟩
    ·exact ⟨rfl, rfl, rfl⟩
theorem Gd.addS {g : List Pi} (h : Gd g) (l : List Str) : Gd (addS g l) ∧ (l ≠ [] ∨ sam g → sam (FL.addS g l)) := by
 unfold FL.addS
 split
 ·rename_i e; exact ⟨h, fun z => z.elim (fun z => absurd e z) id⟩
 ·rename_i e
  have new : (∀ x r, g = x :: r → isS x = false) → Gd (.same l :: g) := fun hn => ⟨fun y hy => by
   rcases List.mem_cons.mp hy with rfl | hy
   ·exact e
   ·exact h.good y hy, by
   cases g with
   | nil => exact trivial
   | cons x r => exact ⟨by rw [hn x r rfl]; show true ≠ false; decide, h.alt⟩⟩
  cases g with
  | nil => exact ⟨new (fun x r z => (nomatch z)), fun _ => rfl⟩
  | cons x r =>
   cases x with
   | same x =>
    refine ⟨⟨fun y hy => ?_, ?_⟩, fun _ => rfl⟩
    ·rcases List.mem_cons.mp hy with rfl | hy
     ·intro z
      exact e (List.append_eq_nil_iff.mp z).2
     ·exact h.good y (List.mem_cons_of_mem _ hy)
    ·cases r with
     | nil => exact trivial
     | cons y r => exact ⟨h.alt.1, h.alt.2⟩
   | one o m => exact ⟨new fun x r z => by cases z; rfl, fun _ => rfl⟩
   | other o m => exact ⟨new fun x r z => by cases z; rfl, fun _ => rfl⟩
   | both o m => exact ⟨new fun x r z => by cases z; rfl, fun _ => rfl⟩
   | clash o m t => exact ⟨new fun x r z => by cases z; rfl, fun _ => rfl⟩
theorem Gd.push {g : List Pi} (h : Gd g) (s : sam g) {x : Pi} (hx : goodP x) (hs : isS x = false) : Gd (x :: g) := ⟨fun y hy => by
 rcases List.mem_cons.mp hy with rfl | hy
 ·exact hx
 ·exact h.good y hy, by
 cases g with
 | nil => exact trivial
 | cons y r => exact ⟨by rw [hs, show isS y = true from s]; decide, h.alt⟩⟩
theorem Gd.addT {g : List Pi} (h : Gd g) (s : sam g) (o m t : List Str) : Gd (addT g o m t) := by
 unfold FL.addT
 split
 ·exact (h.addS o).1
 ·rename_i h0
  split
  ·rename_i h1; exact h.push s (fun z => h0 ⟨h1, z⟩) rfl
  ·rename_i h1
   split
   ·exact h.push s h1 rfl
   ·rename_i h2
    split
    ·exact h.push s h1 rfl
    ·rename_i h3; exact h.push s ⟨h1, h2, h3⟩ rfl
theorem addS_len (g : List Pi) (l : List Str) : (addS g l).length ≤ g.length + 1 := by
 unfold addS
 split
 ·omega
 ·cases g with
  | nil => exact Nat.le_refl _
  | cons x r => cases x <;> simp
theorem addT_len (g : List Pi) (o m t : List Str) : (addT g o m t).length ≤ g.length + 1 := by
 unfold addT
 split
 ·exact addS_len _ _
 ·(repeat' split) <;> simp
structure Ipc (A B C : List Str) (i j k : Nat) (g : List Pi) : Prop where
 gd : Gd g
 sam : sam g
 s0 : sds 0 g = A.take i
 s1 : sds 1 g = B.take j
 s2 : sds 2 g = C.take k
 len : g.length ≤ 2 * i
theorem seg_take {x : List Str} {i p : Nat} (h1 : i ≤ p) (h2 : p < x.length) : x.take i ++ seg x i p ++ [lat x p] = x.take (p + 1) := by
 unfold seg lat
 rw [List.getElem?_eq_getElem h2, Option.getD_some, ← List.take_append_getElem h2]
 congr 1
 have e := List.take_append_drop i (x.take p)
 rw [List.take_take, Nat.min_eq_left h1, List.drop_take] at e
 exact e
theorem lat_eq {x y : List Str} {p q : Nat} (h : x[p]? = y[q]?) : lat x p = lat y q := by unfold lat; rw [h]
theorem ipc_next {A B C : List Str} {i j k p q r : Nat} {g : List Pi} (h : Ipc A B C i j k g) (h1 : i ≤ p) (h2 : j ≤ q) (h3 : k ≤ r) (h4 : p < A.length) (h5 : q < B.length) (h6 : r < C.length) (h7 : A[p]? = B[q]?) (h8 : A[p]? = C[r]?) :
  Ipc A B C (p + 1) (q + 1) (r + 1) (addS (addT g (seg A i p) (seg B j q) (seg C k r)) [lat A p]) := by
 obtain ⟨e0, e1, e2⟩ := addT_sd g (seg A i p) (seg B j q) (seg C k r)
 have gt := h.gd.addT h.sam (seg A i p) (seg B j q) (seg C k r)
 refine ⟨(gt.addS _).1, (gt.addS _).2 (.inl (by simp)), ?_, ?_, ?_, ?_⟩
 ·rw [addS_sd, e0, h.s0]; exact seg_take h1 h4
 ·rw [addS_sd, e1, h.s1, lat_eq h7]; exact seg_take h2 h5
 ·rw [addS_sd, e2, h.s2, lat_eq h8]; exact seg_take h3 h6
 ·have a1 := addT_len g (seg A i p) (seg B j q) (seg C k r)
  have a2 := addS_len (addT g (seg A i p) (seg B j q) (seg C k r)) [lat A p]
  have a3 := h.len
  omega
theorem sd_le {w : Nat} {x : Pi} {g : List Pi} (h : x ∈ g) : (sd w x).length ≤ (sds w g).length := by
 induction g with
 | nil => exact nomatch h
 | cons y g ih =>
  unfold sds
  rw [List.length_append]
  rcases List.mem_cons.mp h with rfl | h
  ·omega
  ·have := ih h
   omega
theorem cut_seg {x : List Str} {i p : Nat} (h1 : i ≤ p) (h2 : p ≤ x.length) : cutL x (some (i : Int)) (some (p : Int)) = seg x i p := by
 unfold cutL seg
 rw [HT.sIx_nat, HT.sIx_nat, Nat.min_eq_left (show i ≤ x.length by omega), Nat.min_eq_left h2]
theorem cut_from {x : List Str} {i : Nat} (h1 : i ≤ x.length) : cutL x (some (i : Int)) none = x.drop i := by
 unfold cutL
 rw [HT.sIx_nat, HT.sIx_none, Nat.min_eq_left h1, List.take_of_length_le (by rw [List.length_drop]; exact Nat.le_refl _)]
theorem seg_len {x : List Str} (i p : Nat) : (seg x i p).length ≤ x.length := by
 unfold seg
 rw [List.length_take, List.length_drop]; omega
theorem Ipc.end_ {A B C : List Str} {i j k : Nat} {g : List Pi} (h : Ipc A B C i j k g) : Gd (addT g (A.drop i) (B.drop j) (C.drop k)) ∧ sds 0 (addT g (A.drop i) (B.drop j) (C.drop k)) = A ∧ sds 1 (addT g (A.drop i) (B.drop j) (C.drop k)) = B ∧ sds 2 (addT g (A.drop i) (B.drop j) (C.drop k)) = C ∧ (addT g (A.drop i) (B.drop j) (C.drop k)).length ≤ 2 * i + 1 := by
 obtain ⟨e0, e1, e2⟩ := addT_sd g (A.drop i) (B.drop j) (C.drop k)
 refine ⟨h.gd.addT h.sam _ _ _, ?_, ?_, ?_, ?_⟩
 ·rw [e0, h.s0, List.take_append_drop]
 ·rw [e1, h.s1, List.take_append_drop]
 ·rw [e2, h.s2, List.take_append_drop]
 ·have := addT_len g (A.drop i) (B.drop j) (C.drop k)
  have := h.len
  omega
theorem pcs_ok {A B C : List Str} (hA : A.length ≤ 1000) : ∀ {l : List (Nat × Nat × Nat)} {i j k : Nat}, Trp A B C i j k l → i ≤ A.length → j ≤ B.length → k ≤ C.length → ∀ {g : List Pi}, Ipc A B C i j k g →
  Res.bind (fo (fun (p_ : (Int × Int × Int)) (s_2 : ((List (Str × List (List Str))) × Int × Int × Int)) => (nb (F_add_stretch s_2.1 (cutL A (some s_2.2.1) (some p_.1)) (cutL B (some s_2.2.2.1) (some p_.2.1)) (cutL C (some s_2.2.2.2) (some p_.2.2))) fun (q_ : (Unit × (List (Str × List (List Str))))) =>
 nb (atL A p_.1) fun (t_2 : Str) =>
 nb (F_add_same q_.2 [t_2]) fun (q_1 : (Unit × (List (Str × List (List Str))))) =>
 nb (.ok (p_.1 + 1)) fun (a_ : Int) =>
 nb (.ok (p_.2.1 + 1)) fun (b_ : Int) =>
 nb (.ok (p_.2.2 + 1)) fun (c_ : Int) =>
 .ok (q_1.2, a_, b_, c_) : Res ((List (Str × List (List Str))) × Int × Int × Int))) (l.map i3) (eR g, (i : Int), (j : Int), (k : Int))) (fun (s_3 : ((List (Str × List (List Str))) × Int × Int × Int)) =>
 nb (F_add_stretch s_3.1 (cutL A (some s_3.2.1) none) (cutL B (some s_3.2.2.1) none) (cutL C (some s_3.2.2.2) none)) fun (q_2 : (Unit × (List (Str × List (List Str))))) =>
 .ok q_2.2) = .ok (eR (pcs A B C l i j k g)) ∧ Gd (pcs A B C l i j k g) ∧ sds 0 (pcs A B C l i j k g) = A ∧ sds 1 (pcs A B C l i j k g) = B ∧ sds 2 (pcs A B C l i j k g) = C ∧ (pcs A B C l i j k g).length ≤ 2 * A.length + 1
 | [], i, j, k, _, hi, hj, hk, g, I => by
  have hl := I.len
  obtain ⟨z1, z2, z3, z4, z5⟩ := I.end_
  refine ⟨?_, z1, z2, z3, z4, by unfold pcs; omega⟩
  rw [List.map_nil, fo, Res.bind_ok]
  dsimp only
  rw [cut_from hi, cut_from hj, cut_from hk, add_stretch_ok (by omega) fun x r e => by
   have := sd_le (w := 0) (x := .same x) (g := g) (by rw [e]; exact List.mem_cons_self)
   rw [I.s0, List.length_take] at this
   have : x.length ≤ min i A.length := this
   rw [List.length_drop]
   omega, nb_ok]
  rfl
 | (p, q, r) :: l, i, j, k, T, hi, hj, hk, g, I => by
  cases T with
  | cons h1 h2 h3 h4 h5 h6 h7 h8 T =>
   have I2 := ipc_next I h1 h2 h3 h4 h5 h6 h7 h8
   have hl := I.len
   have hl2 := addT_len g (seg A i p) (seg B j q) (seg C k r)
   have rest := pcs_ok hA T h4 h5 h6 I2
   refine ⟨?_, rest.2⟩
   rw [List.map_cons, fo]
   dsimp only [i3]
   have obd : ∀ x g', Pi.same x ∈ g' → sds 0 g' = A.take i ++ seg A i p → x.length + 1 ≤ 16777216 := fun x g' hx hg' => by
    have := sd_le (w := 0) hx
    rw [hg', List.length_append, List.length_take] at this
    have : x.length ≤ min i A.length + (seg A i p).length := this
    have := seg_len (x := A) i p
    omega
   rw [cut_seg h1 (by omega), cut_seg h2 (by omega), cut_seg h3 (by omega), add_stretch_ok (by omega) fun x r e => by
    have := sd_le (w := 0) (x := .same x) (g := g) (by rw [e]; exact List.mem_cons_self)
    rw [I.s0, List.length_take] at this
    have : x.length ≤ min i A.length := this
    have := seg_len (x := A) i p
    omega, nb_ok]
   dsimp only
   rw [atL_n (List.getElem?_eq_getElem h4), nb_ok, show A[p] = lat A p by unfold lat; rw [List.getElem?_eq_getElem h4]; rfl, add_same_ok (g := addT g (seg A i p) (seg B j q) (seg C k r)) (l := [lat A p]) (by omega) (fun x r' e => obd x (addT g (seg A i p) (seg B j q) (seg C k r)) (by rw [e]; exact List.mem_cons_self) (by rw [(addT_sd g _ _ _).1, I.s0])), nb_ok, nb_ok, nb_ok, nb_ok, Res.bind_ok]
   exact rest.1
noncomputable def pcsK (A B C : List Str) : List Pi := pcs A B C (hel (kp A B 0 0) (kp A C 0 0)) 0 0 0 []
theorem pieces_ok {A B C : List Str} (hA : gr A) (hB : gr B) (hC : gr C) : F_pieces A B C = .ok (eR (pcsK A B C)) ∧ Gd (pcsK A B C) ∧ sds 0 (pcsK A B C) = A ∧ sds 1 (pcsK A B C) = B ∧ sds 2 (pcsK A B C) = C ∧ (pcsK A B C).length ≤ 2 * A.length + 1 := by
 have h1 := hA.1
 have T := hel_trp (kp_prs A C) (kp_prs A B) 0 fun _ _ _ _ => Nat.zero_le _
 have h := pcs_ok (by omega) T (Nat.zero_le _) (Nat.zero_le _) (Nat.zero_le _) (g := []) ⟨⟨fun _ h => (nomatch h), trivial⟩, trivial, rfl, rfl, rfl, Nat.zero_le _⟩
 refine ⟨?_, h.2⟩
 unfold F_pieces
 rw [show fo (fun (row_ : (List Str)) (s_ : Unit) => (Res.bind (F_check_row row_) fun _ => .ok () : Res Unit)) [A, B, C] () = .ok () by
  simp only [fo, F_check_row_ok hA, F_check_row_ok hB, F_check_row_ok hC, Res.bind_ok], Res.bind_ok, nb_ok, held_ok hA hB hC, nb_ok]
 exact h.1
end FL
namespace FL
open PySem PySem.Spec PyProof.Rows L2
noncomputable def F__law_cell_at (script_ : (List Int)) (k_ : Int) : Res Int :=
 if (decide (k_ < (script_.length : Int))) = true then
 (nb (atL script_ k_) fun (t_ : Int) =>
 .ok t_)
 else
 (.ok 0)
noncomputable def F__law_next (seed_ : Int) : Res Int :=
 nb (.ok ((seed_ + 7919) % 2147483647)) fun (seed_1 : Int) =>
 nb (mulI seed_1 seed_1) fun (t_ : Int) =>
 .ok (((t_ + (48271 * seed_1)) + 12345) % 2147483629)
theorem cell_at_ok (ns : List Int) {k : Int} (hk : 0 ≤ k) : ∃ x, F__law_cell_at ns k = .ok x := by
 unfold F__law_cell_at
 by_cases h : k < (ns.length : Int)
 ·rw [ite_t h, atL_in hk (List.getElem?_eq_getElem (by omega)), nb_ok]; exact ⟨_, rfl⟩
 ·rw [ite_f h]; exact ⟨_, rfl⟩
theorem next_seed (s : Int) : ∃ x, F__law_next s = .ok x ∧ 0 ≤ x := by
 unfold F__law_next
 rw [nb_ok, mulI_ok (.inl (by omega)), nb_ok]
 exact ⟨_, rfl, by omega⟩
end FL
namespace FL
open PySem PySem.Spec PyProof.Rows L2
noncomputable def F__law_row (cell_ : Int) (most_ : Int) : Res (List Str) :=
 nb (.ok ([] : (List Str))) fun (row_ : (List Str)) =>
 nb (modI cell_ (most_ + 1)) fun (many_ : Int) =>
 nb (divI cell_ (most_ + 1)) fun (cell_1 : Int) =>
 nb (rn1 many_) fun (t_2 : (List Int)) =>
 Res.bind (fo (fun (k_ : Int) (s_ : (Int × (List Str))) => (nb (atS ("abc" : Str) (s_.1 % 3)) fun (t_3 : Str) =>
 nb (snoc s_.2 t_3) fun (row_1 : (List Str)) =>
 nb (.ok (s_.1 / 3)) fun (cell_2 : Int) =>
 .ok (cell_2, row_1) : Res (Int × (List Str)))) t_2 (cell_1, row_)) fun (s_1 : (Int × (List Str))) =>
 .ok s_1.2
noncomputable def F__law_changed (row_ : (List Str)) (cell_ : Int) (most_ : Int) : Res (List Str) :=
 nb (.ok row_) fun (found_ : (List Str)) =>
 nb (rn1 (cell_ % 4)) fun (t_ : (List Int)) =>
 Res.bind (fo (fun (k_ : Int) (found_1 : (List Str)) => (nb (F__law_next ((cell_ % 1000003) + (31 * k_))) fun (t_1 : Int) =>
 nb (F__law_next (t_1 + 7)) fun (seed_ : Int) =>
 nb (modI (seed_ / 7) ((found_1.length : Int) + 1)) fun (at_ : Int) =>
 nb (.ok ((seed_ / 7000) % 3)) fun (way_ : Int) =>
 Res.bind (if (decide (way_ = 0)) = true then nb (atS ("abc" : Str) ((seed_ / 700) % 3)) fun (t_4 : Str) =>
 nb (cat (cutL found_1 none (some at_)) [t_4]) fun (t_5 : (List Str)) =>
 nb (cat t_5 (cutL found_1 (some at_) none)) fun (found_2 : (List Str)) =>
 .ok found_2 else .ok found_1 : Res (List Str)) fun (found_3 : (List Str)) =>
 Res.bind (if (decide (way_ = 1)) = true then nb (cat (cutL found_3 none (some at_)) (cutL found_3 (some (at_ + 1)) none)) fun (found_4 : (List Str)) =>
 .ok found_4 else .ok found_3 : Res (List Str)) fun (found_5 : (List Str)) =>
 Res.bind (if (decide (way_ = 2)) = true then nb (atS ("abc" : Str) ((seed_ / 700) % 3)) fun (t_8 : Str) =>
 nb (cat (cutL found_5 none (some at_)) [t_8]) fun (t_9 : (List Str)) =>
 nb (cat t_9 (cutL found_5 (some (at_ + 1)) none)) fun (found_6 : (List Str)) =>
 .ok found_6 else .ok found_5 : Res (List Str)) fun (found_7 : (List Str)) =>
 .ok found_7 : Res (List Str))) t_ found_) fun (found_8 : (List Str)) =>
 .ok (cutL found_8 none (some most_))
noncomputable def F__law_three (script_ : (List Int)) (at_ : Int) (most_ : Int) : Res (List (List Str)) :=
 nb (F__law_cell_at script_ at_) fun (t_ : Int) =>
 nb (F__law_row t_ most_) fun (base_ : (List Str)) =>
 nb (.ok [base_]) fun (rows_ : (List (List Str))) =>
 nb (rn2 1 3) fun (t_2 : (List Int)) =>
 Res.bind (fo (fun (k_ : Int) (rows_1 : (List (List Str))) => (nb (F__law_cell_at script_ (at_ + k_)) fun (cell_ : Int) =>
 nb (F__law_cell_at script_ (at_ + 3)) fun (t_4 : Int) =>
 Res.bind (if (decide ((t_4 % 2) = 0)) = true then nb (F__law_row cell_ most_) fun (t_5 : (List Str)) =>
 nb (snoc rows_1 t_5) fun (rows_2 : (List (List Str))) =>
 .ok rows_2 else nb (F__law_changed base_ cell_ most_) fun (t_6 : (List Str)) =>
 nb (snoc rows_1 t_6) fun (rows_3 : (List (List Str))) =>
 .ok rows_3 : Res (List (List Str))) fun (rows_4 : (List (List Str))) =>
 .ok rows_4 : Res (List (List Str)))) t_2 rows_) fun (rows_5 : (List (List Str))) =>
 .ok rows_5
theorem abc_ok {i : Int} (h0 : 0 ≤ i) (h3 : i < 3) : ∃ z, atS ("abc" : Str) i = .ok z ∧ gl z := by
 have e : ("abc" : Str).cps.toList = [97, 98, 99] := by decide +kernel
 have hl : i.toNat < [97, 98, 99].length := by show i.toNat < 3; omega
 unfold atS
 rw [e, atL_in h0 (List.getElem?_eq_getElem hl), nb_ok]
 have g : ∀ c ∈ [97, 98, 99], gl (sg c) := by decide +kernel
 exact ⟨_, rfl, g _ (List.getElem_mem hl)⟩
theorem lrow_ok (cell : Int) {most : Int} (hm : 0 ≤ most) (hm2 : most ≤ 1000) : ∃ row, F__law_row cell most = .ok row ∧ (row.length : Int) ≤ most ∧ ∀ z ∈ row, gl z := by
 unfold F__law_row
 rw [nb_ok, modI_ok (by omega), nb_ok, divI_ok (by omega), nb_ok]
 have a0 := Int.emod_nonneg cell (show most + 1 ≠ 0 by omega)
 have a1 := Int.emod_lt_of_pos cell (show 0 < most + 1 by omega)
 obtain ⟨m, hmm⟩ : ∃ m : Nat, cell % (most + 1) = (m : Int) := ⟨(cell % (most + 1)).toNat, by omega⟩
 rw [hmm, rn1_nat (by omega), nb_ok]
 obtain ⟨s, h1, h2, h3⟩ := fo_inv (xs := (List.range m).map fun (i : Nat) => (i : Int)) (s := (cell / (most + 1), ([] : List Str))) (body := (fun (k_ : Int) (s_ : (Int × (List Str))) => (nb (atS ("abc" : Str) (s_.1 % 3)) fun (t_3 : Str) =>
 nb (snoc s_.2 t_3) fun (row_1 : (List Str)) =>
 nb (.ok (s_.1 / 3)) fun (cell_2 : Int) =>
 .ok (cell_2, row_1) : Res (Int × (List Str))))) (fun i s => s.2.length = i ∧ ∀ z ∈ s.2, gl z) ⟨rfl, fun z hz => (nomatch hz)⟩ (by
  rintro i x ⟨q, row⟩ hx ⟨p1, p2⟩
  have hi : i < m := by
   have := (List.getElem?_eq_some_iff.mp hx).1
   simpa using this
  dsimp only at p1 p2 ⊢
  obtain ⟨z, hz, gz⟩ := abc_ok (i := q % 3) (by omega) (by omega)
  rw [hz, nb_ok, snoc_ok (by omega), nb_ok, nb_ok]
  refine ⟨_, rfl, by simp [p1], fun w hw => ?_⟩
  rcases List.mem_append.mp hw with hw | hw
  ·exact p2 w hw
  ·rw [List.mem_singleton.mp hw]; exact gz)
 rw [h1, Res.bind_ok]
 exact ⟨_, rfl, by rw [h2, List.length_map, List.length_range]; omega, h3⟩
theorem changed_ok {row : List Str} (hr : row.length ≤ 1000) (gr' : ∀ z ∈ row, gl z) (cell : Int) {most : Int} (hm : 0 ≤ most) (hm2 : most ≤ 1000) : ∃ r, F__law_changed row cell most = .ok r ∧ (r.length : Int) ≤ most ∧ ∀ z ∈ r, gl z := by
 unfold F__law_changed
 obtain ⟨m, hmm⟩ : ∃ m : Nat, cell % 4 = (m : Int) := ⟨(cell % 4).toNat, by omega⟩
 rw [nb_ok, hmm, rn1_nat (by omega), nb_ok]
 have hm4 : m < 4 := by omega
 obtain ⟨s, h1, h2, h3⟩ := fo_inv (xs := (List.range m).map fun (i : Nat) => (i : Int)) (s := row) (body := (fun (k_ : Int) (found_1 : (List Str)) => (nb (F__law_next ((cell % 1000003) + (31 * k_))) fun (t_1 : Int) =>
 nb (F__law_next (t_1 + 7)) fun (seed_ : Int) =>
 nb (modI (seed_ / 7) ((found_1.length : Int) + 1)) fun (at_ : Int) =>
 nb (.ok ((seed_ / 7000) % 3)) fun (way_ : Int) =>
 Res.bind (if (decide (way_ = 0)) = true then nb (atS ("abc" : Str) ((seed_ / 700) % 3)) fun (t_4 : Str) =>
 nb (cat (cutL found_1 none (some at_)) [t_4]) fun (t_5 : (List Str)) =>
 nb (cat t_5 (cutL found_1 (some at_) none)) fun (found_2 : (List Str)) =>
 .ok found_2 else .ok found_1 : Res (List Str)) fun (found_3 : (List Str)) =>
 Res.bind (if (decide (way_ = 1)) = true then nb (cat (cutL found_3 none (some at_)) (cutL found_3 (some (at_ + 1)) none)) fun (found_4 : (List Str)) =>
 .ok found_4 else .ok found_3 : Res (List Str)) fun (found_5 : (List Str)) =>
 Res.bind (if (decide (way_ = 2)) = true then nb (atS ("abc" : Str) ((seed_ / 700) % 3)) fun (t_8 : Str) =>
 nb (cat (cutL found_5 none (some at_)) [t_8]) fun (t_9 : (List Str)) =>
 nb (cat t_9 (cutL found_5 (some (at_ + 1)) none)) fun (found_6 : (List Str)) =>
 .ok found_6 else .ok found_5 : Res (List Str)) fun (found_7 : (List Str)) =>
 .ok found_7 : Res (List Str)))) (fun i s => s.length ≤ 8000 * (i + 1) * (i + 1) * (i + 1) ∧ ∀ z ∈ s, gl z) ⟨by omega, gr'⟩ (by
  intro i x found hx ⟨p1, p2⟩
  have hi : i < m := by
   have := (List.getElem?_eq_some_iff.mp hx).1
   simpa using this
  have hi3 : i = 0 ∨ i = 1 ∨ i = 2 := by omega
  obtain ⟨s1, e1, _⟩ := next_seed (cell % 1000003 + 31 * x)
  obtain ⟨s2, e2, _⟩ := next_seed (s1 + 7)
  have q0 := Int.emod_nonneg (s2 / 7) (b := ((found.length : Int) + 1)) (by omega)
  have hfl : found.length ≤ 300000 := by rcases hi3 with rfl | rfl | rfl <;> omega
  rw [e1, nb_ok, e2, nb_ok, modI_ok (by omega), nb_ok, nb_ok]
  generalize s2 / 7 % ((found.length : Int) + 1) = at_ at q0 ⊢
  have w0 : s2 / 7000 % 3 = 0 ∨ s2 / 7000 % 3 = 1 ∨ s2 / 7000 % 3 = 2 := by omega
  obtain ⟨z, hz, gz⟩ := abc_ok (i := s2 / 700 % 3) (by omega) (by omega)
  have sub : ∀ {lo hi : Option Int} {w : Str}, w ∈ cutL found lo hi → gl w := fun h => p2 _ (List.mem_of_mem_drop (List.mem_of_mem_take h))
  have ln : ∀ (lo hi : Option Int), (cutL found lo hi).length ≤ found.length := fun lo hi => cutL_length found lo hi
  have c1 := ln none (some at_)
  have c2 := ln (some at_) none
  have c3 := ln (some (at_ + 1)) none
  have bnd : 2 * found.length + 1 ≤ 8000 * (i + 1 + 1) * (i + 1 + 1) * (i + 1 + 1) := by rcases hi3 with rfl | rfl | rfl <;> omega
  generalize 8000 * (i + 1 + 1) * (i + 1 + 1) * (i + 1 + 1) = BB at bnd ⊢
  rcases w0 with w | w | w
  ·rw [w, ite_t rfl, hz, nb_ok, cat_ok (by rw [List.length_singleton]; omega), nb_ok, cat_ok (by rw [List.length_append, List.length_singleton]; omega), nb_ok, Res.bind_ok, ite_f (by omega), Res.bind_ok, ite_f (by omega), Res.bind_ok]
   refine ⟨_, rfl, by rw [List.length_append, List.length_append, List.length_singleton]; omega, fun y hy => ?_⟩
   rcases List.mem_append.mp hy with hy | hy
   ·rcases List.mem_append.mp hy with hy | hy
    ·exact sub hy
    ·rw [List.mem_singleton.mp hy]; exact gz
   ·exact sub hy
  ·rw [w, ite_f (by omega), Res.bind_ok, ite_t rfl, cat_ok (by omega), nb_ok, Res.bind_ok, ite_f (by omega), Res.bind_ok]
   refine ⟨_, rfl, by rw [List.length_append]; omega, fun y hy => ?_⟩
   rcases List.mem_append.mp hy with hy | hy
   ·exact sub hy
   ·exact sub hy
  ·rw [w, ite_f (by omega), Res.bind_ok, ite_f (by omega), Res.bind_ok, ite_t rfl, hz, nb_ok, cat_ok (by rw [List.length_singleton]; omega), nb_ok, cat_ok (by rw [List.length_append, List.length_singleton]; omega), nb_ok, Res.bind_ok]
   refine ⟨_, rfl, by rw [List.length_append, List.length_append, List.length_singleton]; omega, fun y hy => ?_⟩
   rcases List.mem_append.mp hy with hy | hy
   ·rcases List.mem_append.mp hy with hy | hy
    ·exact sub hy
    ·rw [List.mem_singleton.mp hy]; exact gz
   ·exact sub hy)
 rw [h1, Res.bind_ok]
 refine ⟨_, rfl, ?_, fun z hz => h3 z (List.mem_of_mem_drop (List.mem_of_mem_take hz))⟩
 obtain ⟨q, rfl⟩ : ∃ q : Nat, most = (q : Int) := ⟨most.toNat, by omega⟩
 unfold cutL
 rw [HT.sIx_nat, HT.sIx_none, List.length_take]
 omega
theorem three_ok (ns : List Int) {at_ most : Int} (ha : 0 ≤ at_) (hm : 0 ≤ most) (hm2 : most ≤ 40) : ∃ A B C, F__law_three ns at_ most = .ok [A, B, C] ∧ gr A ∧ gr B ∧ gr C ∧ (A.length : Int) ≤ most ∧ (B.length : Int) ≤ most ∧ (C.length : Int) ≤ most := by
 unfold F__law_three
 obtain ⟨c0, e0⟩ := cell_at_ok ns (k := at_) ha
 obtain ⟨c1, e1⟩ := cell_at_ok ns (k := at_ + 1) (by omega)
 obtain ⟨c2, e2⟩ := cell_at_ok ns (k := at_ + 2) (by omega)
 obtain ⟨c3, e3⟩ := cell_at_ok ns (k := at_ + 3) (by omega)
 obtain ⟨A, eA, lA, gA⟩ := lrow_ok c0 hm (by omega)
 have one : ∀ c, ∃ B, (∀ rows : List (List Str), rows.length < 1000 → (Res.bind (if (decide ((c3 % 2) = 0)) = true then nb (F__law_row c most) fun (t_5 : (List Str)) =>
 nb (snoc rows t_5) fun (rows_2 : (List (List Str))) =>
 .ok rows_2 else nb (F__law_changed A c most) fun (t_6 : (List Str)) =>
 nb (snoc rows t_6) fun (rows_3 : (List (List Str))) =>
 .ok rows_3 : Res (List (List Str))) fun (rows_4 : (List (List Str))) =>
 .ok rows_4 : Res (List (List Str))) = .ok (rows ++ [B])) ∧ gr B ∧ (B.length : Int) ≤ most := fun c => by
  by_cases h : c3 % 2 = 0
  ·obtain ⟨B, eB, lB, gB⟩ := lrow_ok c hm (by omega)
   refine ⟨B, fun rows hr => ?_, ⟨by omega, gB⟩, lB⟩
   rw [ite_t h, eB, nb_ok, snoc_ok (by omega), nb_ok, Res.bind_ok]
  ·obtain ⟨B, eB, lB, gB⟩ := changed_ok (row := A) (by omega) gA c hm (by omega)
   refine ⟨B, fun rows hr => ?_, ⟨by omega, gB⟩, lB⟩
   rw [ite_f h, eB, nb_ok, snoc_ok (by omega), nb_ok, Res.bind_ok]
 obtain ⟨B, eB, gB, lB⟩ := one c1
 obtain ⟨C, eC, gC, lC⟩ := one c2
 rw [e0, nb_ok, eA, nb_ok, nb_ok, show rn2 1 3 = .ok [1, 2] from rn2_nat (a := 1) (b := 3) (by omega) (by omega), nb_ok]
 refine ⟨A, B, C, ?_, ⟨by omega, gA⟩, gB, gC, lA, lB, lC⟩
 rw [fo, e1, nb_ok, e3, nb_ok, eB [A] (show 1 < 1000 by decide), Res.bind_ok, fo, e2, nb_ok, nb_ok, eC ([A] ++ [B]) (show 2 < 1000 by decide), Res.bind_ok, fo, Res.bind_ok]
 rfl
theorem fo_app {α σ : Type} {body : α → σ → Res σ} : ∀ (xs : List α) (y : α) (s : σ), fo body (xs ++ [y]) s = (fo body xs s).bind fun s => body y s
 | [], y, s => by
  show (body y s).bind (fun s' => .ok s') = body y s
  cases body y s <;> rfl
 | x :: xs, y, s => by
  show (body x s).bind (fun s' => fo body (xs ++ [y]) s') = ((body x s).bind fun s' => fo body xs s').bind fun s => body y s
  cases body x s with
  | ok a => exact fo_app xs y a
  | ex z => rfl
  | bad => rfl
def isC : Pi → Bool
 | .clash _ _ _ => true
 | _ => false
def ltP : Pi → List Str
 | .same l => l
 | .one _ l => l
 | .other _ l => l
 | .both _ l => l
 | .clash _ _ t => t
def lts : List Pi → List Str
 | [] => []
 | x :: g => lts g ++ ltP x
theorem eP_clash (x : Pi) : decide ((eP x).1 = ("clash" : Str)) = isC x := by
 cases x
 ·exact decide_eq_false w_sc
 ·exact decide_eq_false w_oc
 ·exact decide_eq_false w_tc
 ·exact decide_eq_false w_bc
 ·exact decide_eq_true rfl
theorem atW_last {x : Pi} : atW (eP x) (-1) = .ok (ltP x) := by
 have h : ∀ {w : Str} {l : List (List Str)} {y : List Str}, atW (w, l ++ [y]) (-1) = .ok y := fun {w l y} => by
  unfold atW
  rw [if_neg (by decide), if_pos ⟨by decide, by rw [List.length_append, List.length_singleton]; omega⟩]
  exact atL_last l y
 cases x
 ·exact h (l := [])
 ·exact h (l := [_])
 ·exact h (l := [_])
 ·exact h (l := [_])
 ·exact h (l := [_, _])
theorem lts_in {g : List Pi} : (lts g).length ≤ (sds 1 g).length + (sds 2 g).length ∧ ∀ z ∈ lts g, z ∈ sds 1 g ∨ z ∈ sds 2 g := by
 induction g with
 | nil => exact ⟨Nat.zero_le _, fun z h => (nomatch h)⟩
 | cons x g ih =>
  have hx : ltP x = sd 1 x ∨ ltP x = sd 2 x := by
   cases x
   ·exact .inl rfl
   ·exact .inl rfl
   ·exact .inr rfl
   ·exact .inl rfl
   ·exact .inr rfl
  unfold lts sds
  refine ⟨?_, fun z hz => ?_⟩
  ·simp only [List.length_append]
   have := ih.1
   rcases hx with e | e <;> rw [e] <;> omega
  ·simp only [List.mem_append] at hz ⊢
   rcases hz with hz | hz
   ·rcases ih.2 z hz with h | h
    ·exact .inl (.inl h)
    ·exact .inr (.inl h)
   ·rcases hx with e | e
    ·rw [e] at hz; exact .inl (.inr hz)
    ·rw [e] at hz; exact .inr (.inr hz)
theorem merged_lines_ok {g : List Pi} (h : (lts g).length ≤ 1000) : F_merged_lines (eR g) = .ok (lts g) := by
 have key : ∀ g : List Pi, (lts g).length ≤ 1000 → fo (fun (piece_ : (Str × List (List Str))) (found_1 : (List Str)) => (nb (atW piece_ (-1)) fun (t_ : (List Str)) =>
 nb (cat found_1 t_) fun (found_2 : (List Str)) =>
 .ok found_2 : Res (List Str))) (eR g) [] = .ok (lts g) := by
  intro g
  induction g with
  | nil => exact fun _ => rfl
  | cons x g ih =>
   intro h
   unfold lts at h
   rw [List.length_append] at h
   rw [eR_cons, fo_app, ih (by omega), Res.bind_ok, atW_last, nb_ok, cat_ok (by omega), nb_ok]
   rfl
 unfold F_merged_lines
 rw [nb_ok, key g h, Res.bind_ok]
theorem has_clash_ok (g : List Pi) : F_has_clash (eR g) = .ok (g.any isC) := by
 unfold F_has_clash eR
 congr 1
 rw [List.map_map, List.any_map, List.any_reverse]
 refine List.any_congr rfl fun x => ?_
 exact eP_clash x
theorem merged_ok {B C : List Str} {g : List Pi} (hB : gr B) (hC : gr C) (hl : B.length + C.length ≤ 40) (h1 : sds 1 g = B) (h2 : sds 2 g = C) (hc : g.any isC = false) : F_merged (eR g) = .ok (lts g) := by
 obtain ⟨z1, z2⟩ := lts_in (g := g)
 rw [h1, h2] at z1 z2
 unfold F_merged
 rw [has_clash_ok, nb_ok, hc, if_neg (by decide), merged_lines_ok (by omega), nb_ok]
 unfold F_as_row
 rw [F_check_row_ok ⟨by omega, fun z hz => (z2 z hz).elim (hB.2 z) (hC.2 z)⟩]
 rfl
end FL
namespace FL
open PySem PySem.Spec PyProof.Rows L2
noncomputable def F_picked (piece_ : (Str × List (List Str))) (pick_ : Str) : Res (List Str) :=
 nb (cutW piece_ (some 1) none) fun (t_ : (List (List Str))) =>
 nb (un3 t_) fun (p_ : ((List Str) × (List Str) × (List Str))) =>
 if (decide (pick_ = ("old" : Str))) = true then
 (.ok p_.1)
 else
 (if (decide (pick_ = ("one" : Str))) = true then
 (.ok p_.2.1)
 else
 (if (decide (pick_ = ("other" : Str))) = true then
 (.ok p_.2.2)
 else
 (if (decide (pick_ = ("one other" : Str))) = true then
 (nb (cat p_.2.1 p_.2.2) fun (t_1 : (List Str)) =>
 .ok t_1)
 else
 (if (decide (pick_ = ("other one" : Str))) = true then
 (nb (cat p_.2.2 p_.2.1) fun (t_2 : (List Str)) =>
 .ok t_2)
 else
 (.ex ⟨"NoFit", none⟩)))))
def pwords : List Str := [("old" : Str), "one", "other", "one other", "other one"]
def pk (o m t : List Str) (w : Str) : Option (List Str) :=
 if w = ("old" : Str) then some o else if w = ("one" : Str) then some m else if w = ("other" : Str) then some t else if w = ("one other" : Str) then some (m ++ t) else if w = ("other one" : Str) then some (t ++ m) else none
theorem cw1' (w : Str) (l : List (List Str)) : cutW (w, l) (some 1) none = .ok l := by
 show (if (1 : Int) ≤ 1 ∧ (1 : Int) ≤ ((w, l).2.length : Int) + 1 then _ else _) = _
 rw [if_pos ⟨by omega, by omega⟩]
 rfl
theorem picked_ok {o m t : List Str} (w : Str) (h : m.length + t.length ≤ 1000) : F_picked (eP (.clash o m t)) w = match pk o m t w with
  | some l => .ok l
  | none => .ex ⟨"NoFit", none⟩ := by
 unfold F_picked
 rw [show eP (.clash o m t) = (("clash" : Str), [o, m, t]) from rfl, cw1', nb_ok, show un3 [o, m, t] = .ok (o, m, t) from rfl, nb_ok]
 dsimp only
 unfold pk
 by_cases h1 : w = ("old" : Str)
 ·rw [ite_t h1, if_pos h1]
 ·rw [ite_f h1, if_neg h1]
  by_cases h2 : w = ("one" : Str)
  ·rw [ite_t h2, if_pos h2]
  ·rw [ite_f h2, if_neg h2]
   by_cases h3 : w = ("other" : Str)
   ·rw [ite_t h3, if_pos h3]
   ·rw [ite_f h3, if_neg h3]
    by_cases h4 : w = ("one other" : Str)
    ·rw [ite_t h4, if_pos h4, cat_ok (by omega), nb_ok]
    ·rw [ite_f h4, if_neg h4]
     by_cases h5 : w = ("other one" : Str)
     ·rw [ite_t h5, if_pos h5, cat_ok (by omega), nb_ok]
     ·rw [ite_f h5, if_neg h5]
theorem pk_some {o m t : List Str} {w : Str} (h : w ∈ pwords) : ∃ l, pk o m t w = some l := by
 unfold pwords at h
 unfold pk
 simp only [List.mem_cons, List.not_mem_nil, or_false] at h
 by_cases h1 : w = ("old" : Str)
 ·exact ⟨_, if_pos h1⟩
 ·rw [if_neg h1]
  by_cases h2 : w = ("one" : Str)
  ·exact ⟨_, if_pos h2⟩
  ·rw [if_neg h2]
   by_cases h3 : w = ("other" : Str)
   ·exact ⟨_, if_pos h3⟩
   ·rw [if_neg h3]
    by_cases h4 : w = ("one other" : Str)
    ·exact ⟨_, if_pos h4⟩
    ·rw [if_neg h4]
     have h5 : w = ("other one" : Str) := by
      rcases h with h | h | h | h | h
      ·exact absurd h h1
      ·exact absurd h h2
      ·exact absurd h h3
      ·exact absurd h h4
      ·exact h
     exact ⟨_, if_pos h5⟩
theorem pk_none {o m t : List Str} {w : Str} (h : w ∉ pwords) : pk o m t w = none := by
 unfold pwords at h
 simp only [List.mem_cons, List.not_mem_nil, or_false, not_or] at h
 unfold pk
 rw [if_neg h.1, if_neg h.2.1, if_neg h.2.2.1, if_neg h.2.2.2.1, if_neg h.2.2.2.2]
theorem pk_in {o m t : List Str} {w : Str} {l : List Str} (h : pk o m t w = some l) : l.length ≤ o.length + m.length + t.length ∧ ∀ z ∈ l, z ∈ o ∨ z ∈ m ∨ z ∈ t := by
 unfold pk at h
 split at h
 ·cases h; exact ⟨by omega, fun z hz => .inl hz⟩
 ·split at h
  ·cases h; exact ⟨by omega, fun z hz => .inr (.inl hz)⟩
  ·split at h
   ·cases h; exact ⟨by omega, fun z hz => .inr (.inr hz)⟩
   ·split at h
    ·cases h; exact ⟨by rw [List.length_append]; omega, fun z hz => (List.mem_append.mp hz).elim (fun h => .inr (.inl h)) fun h => .inr (.inr h)⟩
    ·split at h
     ·cases h; exact ⟨by rw [List.length_append]; omega, fun z hz => (List.mem_append.mp hz).elim (fun h => .inr (.inr h)) fun h => .inr (.inl h)⟩
     ·cases h
def stl : List Pi → List Str → Option (List Str)
 | [], _ => some []
 | .clash o m t :: L, p :: ps => (pk o m t p).bind fun l => (stl L ps).map (l ++ ·)
 | .clash _ _ _ :: _, [] => none
 | .same l :: L, ps => (stl L ps).map (l ++ ·)
 | .one _ l :: L, ps => (stl L ps).map (l ++ ·)
 | .other _ l :: L, ps => (stl L ps).map (l ++ ·)
 | .both _ l :: L, ps => (stl L ps).map (l ++ ·)
theorem stl_no {x : Pi} (h : isC x = false) (L : List Pi) (ps : List Str) : stl (x :: L) ps = (stl L ps).map (ltP x ++ ·) := by
 cases x with
 | clash => cases h
 | same l => simp only [stl]; rfl
 | one o l => simp only [stl]; rfl
 | other o l => simp only [stl]; rfl
 | both o l => simp only [stl]; rfl
def cl (L : List Pi) : Nat := (L.filter isC).length
theorem cl_c (o m t : List Str) (L : List Pi) : cl (.clash o m t :: L) = cl L + 1 := by
 unfold cl
 rw [List.filter_cons, if_pos (by rfl)]; rfl
theorem cl_no {x : Pi} (h : isC x = false) (L : List Pi) : cl (x :: L) = cl L := by
 unfold cl
 rw [List.filter_cons, if_neg (by rw [h]; decide)]
def szP (x : Pi) : Nat := (sd 0 x).length + (sd 1 x).length + (sd 2 x).length
def tot : List Pi → Nat
 | [] => 0
 | x :: L => szP x + tot L
theorem tot_snoc (x : Pi) : ∀ L : List Pi, tot (L ++ [x]) = tot L + szP x
 | [] => by show szP x + 0 = 0 + szP x; omega
 | y :: L => by show szP y + tot (L ++ [x]) = szP y + tot L + szP x; rw [tot_snoc x L]; omega
theorem tot_rev : ∀ g : List Pi, tot g.reverse = (sds 0 g).length + (sds 1 g).length + (sds 2 g).length
 | [] => rfl
 | x :: g => by
  rw [List.reverse_cons, tot_snoc, tot_rev g, show sds 0 (x :: g) = sds 0 g ++ sd 0 x from rfl, show sds 1 (x :: g) = sds 1 g ++ sd 1 x from rfl, show sds 2 (x :: g) = sds 2 g ++ sd 2 x from rfl, List.length_append, List.length_append, List.length_append]
  unfold szP
  omega
theorem ltP_sz (x : Pi) : (ltP x).length ≤ szP x := by
 unfold szP
 cases x with
 | same l => show l.length ≤ l.length + l.length + l.length; omega
 | one o l => show l.length ≤ o.length + l.length + o.length; omega
 | other o l => show l.length ≤ o.length + o.length + l.length; omega
 | both o l => show l.length ≤ o.length + l.length + l.length; omega
 | clash o m t => show t.length ≤ o.length + m.length + t.length; omega
theorem ltP_in {x : Pi} {z : Str} (h : z ∈ ltP x) : z ∈ sd 1 x ∨ z ∈ sd 2 x := by
 cases x
 ·exact .inl h
 ·exact .inl h
 ·exact .inr h
 ·exact .inl h
 ·exact .inr h
theorem stl_in : ∀ {L : List Pi} {ps l : List Str}, stl L ps = some l → l.length ≤ tot L ∧ ∀ z ∈ l, ∃ x ∈ L, z ∈ sd 0 x ∨ z ∈ sd 1 x ∨ z ∈ sd 2 x
 | [], ps, l, h => by unfold stl at h; cases h; exact ⟨Nat.zero_le _, fun z hz => (nomatch hz)⟩
 | x :: L, ps, l, h => by
  by_cases hc : isC x = true
  ·cases x with
   | clash o m t =>
    cases ps with
    | nil => unfold stl at h; cases h
    | cons p ps =>
     unfold stl at h
     obtain ⟨a, ha, h⟩ := Option.bind_eq_some_iff.mp h
     obtain ⟨b, hb, rfl⟩ := Option.map_eq_some_iff.mp h
     obtain ⟨i1, i2⟩ := stl_in hb
     obtain ⟨j1, j2⟩ := pk_in ha
     refine ⟨?_, fun z hz => ?_⟩
     ·rw [List.length_append]
      show _ ≤ (o.length + m.length + t.length) + tot L
      omega
     ·rcases List.mem_append.mp hz with hz | hz
      ·exact ⟨_, List.mem_cons_self, j2 z hz⟩
      ·obtain ⟨y, y1, y2⟩ := i2 z hz
       exact ⟨y, List.mem_cons_of_mem _ y1, y2⟩
   | _ => cases hc
  ·have hc : isC x = false := by simpa using hc
   rw [stl_no hc] at h
   obtain ⟨b, hb, rfl⟩ := Option.map_eq_some_iff.mp h
   obtain ⟨i1, i2⟩ := stl_in hb
   refine ⟨?_, fun z hz => ?_⟩
   ·rw [List.length_append]
    have := ltP_sz x
    show _ ≤ szP x + tot L
    omega
   ·rcases List.mem_append.mp hz with hz | hz
    ·exact ⟨x, List.mem_cons_self, .inr (ltP_in hz)⟩
    ·obtain ⟨y, y1, y2⟩ := i2 z hz
     exact ⟨y, List.mem_cons_of_mem _ y1, y2⟩
theorem stl_bad : ∀ {L : List Pi} {ps : List Str}, ps.length = cl L → (∃ p ∈ ps, p ∉ pwords) → stl L ps = none
 | [], ps, h, ⟨p, hp, _⟩ => by
  have : ps = [] := List.length_eq_zero_iff.mp h
  rw [this] at hp; cases hp
 | x :: L, ps, h, ⟨q, hq, hw⟩ => by
  by_cases hc : isC x = true
  ·cases x with
   | clash o m t =>
    cases ps with
    | nil => cases hq
    | cons p ps =>
     rw [cl_c] at h
     unfold stl
     rcases List.mem_cons.mp hq with rfl | hq
     ·rw [pk_none hw]; rfl
     ·rw [stl_bad (L := L) (ps := ps) (by simpa using h) ⟨q, hq, hw⟩]
      cases pk o m t p <;> rfl
   | _ => cases hc
  ·have hc : isC x = false := by simpa using hc
   rw [stl_no hc, stl_bad (L := L) (ps := ps) (by rw [h, cl_no hc]) ⟨q, hq, hw⟩]; rfl
theorem popI_0 {α : Type} (p : α) (ps : List α) : popI (p :: ps) 0 = .ok (p, ps) := by
 unfold popI
 have e : ixN (p :: ps).length 0 = some 0 := by unfold ixN; simp
 rw [e]
 exact chk_ok ⟨by decide, by decide⟩
theorem settle_loop : ∀ (L : List Pi) (ps found : List Str), ps.length = cl L → found.length + tot L ≤ 1000 → fo (fun (piece_1 : (Str × List (List Str))) (s_ : ((List Str) × (List Str))) => (Res.bind (if (decide (piece_1.1 = ("clash" : Str))) = true then nb (popI s_.1 0) fun (p_ : (Str × (List Str))) =>
 Res.bind (F_picked piece_1 p_.1) fun (q_ : (List Str)) =>
 nb (cat s_.2 q_) fun (found_1 : (List Str)) =>
 .ok (p_.2, found_1) else nb (atW piece_1 (-1)) fun (t_ : (List Str)) =>
 nb (cat s_.2 t_) fun (found_2 : (List Str)) =>
 .ok (s_.1, found_2) : Res ((List Str) × (List Str))) fun (s_1 : ((List Str) × (List Str))) =>
 .ok (s_1.1, s_1.2) : Res ((List Str) × (List Str)))) (L.map eP) (ps, found) = match stl L ps with
  | some l => .ok ([], found ++ l)
  | none => .ex ⟨"NoFit", none⟩
 | [], ps, found, h, _ => by
  have : ps = [] := List.length_eq_zero_iff.mp h
  subst this
  unfold stl
  rw [List.map_nil, fo]
  show _ = Res.ok ([], found ++ [])
  rw [List.append_nil]
 | x :: L, ps, found, h, hl => by
  rw [List.map_cons, fo]
  have htx : szP x + tot L = tot (x :: L) := rfl
  by_cases hc : isC x = true
  ·rw [eP_clash, hc, if_pos rfl]
   cases x with
   | clash o m t =>
    have hz : szP (.clash o m t) = o.length + m.length + t.length := rfl
    cases ps with
    | nil => rw [cl_c] at h; cases h
    | cons p ps =>
     rw [cl_c] at h
     rw [popI_0, nb_ok, picked_ok p (by omega)]
     unfold stl
     cases e : pk o m t p with
     | none => rfl
     | some a =>
      obtain ⟨j1, _⟩ := pk_in e
      rw [show (match some a with | some l => Res.ok l | none => .ex ⟨"NoFit", none⟩) = Res.ok a from rfl, Res.bind_ok, cat_ok (by show found.length + a.length ≤ _; omega), nb_ok, Res.bind_ok, Res.bind_ok, settle_loop L ps (found ++ a) (by simpa using h) (by rw [List.length_append]; omega), Option.bind_some]
      cases stl L ps with
      | none => rfl
      | some b => show Res.ok ([], found ++ a ++ b) = Res.ok ([], found ++ (a ++ b)); rw [List.append_assoc]
   | _ => cases hc
  ·have hc : isC x = false := by simpa using hc
   have := ltP_sz x
   rw [eP_clash, hc, if_neg (by decide), atW_last, nb_ok, cat_ok (by show found.length + (ltP x).length ≤ _; omega), nb_ok, Res.bind_ok, Res.bind_ok, settle_loop L ps (found ++ ltP x) (by rw [h, cl_no hc]) (by rw [List.length_append]; omega), stl_no hc]
   cases stl L ps with
   | none => rfl
   | some b => show Res.ok ([], found ++ ltP x ++ b) = Res.ok ([], found ++ (ltP x ++ b)); rw [List.append_assoc]
theorem cl_map (L : List Pi) : ((L.map eP).filter fun (piece_ : (Str × List (List Str))) => (decide (piece_.1 = ("clash" : Str)))).length = cl L := by
 unfold cl
 rw [List.filter_map, List.length_map]
 congr 2
 funext x
 exact eP_clash x
theorem F_as_row_ok {l : List Str} (h : gr l) : F_as_row l = .ok l := by
 unfold F_as_row
 rw [F_check_row_ok h]
 rfl
end FL
namespace FL
open PySem PySem.Spec PyProof.Rows L2
def exTab : List (Str × List Str) := [(("BadRow" : Str), [("BadRow" : Str), ("PastError" : Str)]), (("BadTree" : Str), [("BadTree" : Str), ("PastError" : Str)]), (("BadWeb" : Str), [("BadWeb" : Str), ("PastError" : Str)]), (("Clash" : Str), [("Clash" : Str), ("PastError" : Str)]), (("NoAsking" : Str), [("NoAsking" : Str), ("PastError" : Str)]), (("NoFit" : Str), [("NoFit" : Str), ("PastError" : Str)]), (("NoVersion" : Str), [("NoVersion" : Str), ("PastError" : Str)]), (("PastError" : Str), [("PastError" : Str)])]
def exT : List Str := [("BadRow" : Str), ("BadTree" : Str), ("BadWeb" : Str), ("Clash" : Str), ("NoAsking" : Str), ("NoFit" : Str), ("NoVersion" : Str), ("PastError" : Str)]
def exS (c d : Str) : Bool := match exTab.lookup c with
 | some l => l.contains d
 | none => false
noncomputable def F_settled (told_ : (List (Str × List (List Str)))) (picks_ : (List Str)) : Res (List Str) :=
 if (!(decide ((picks_.length : Int) = ((told_.filter fun (piece_ : (Str × List (List Str))) => (decide (piece_.1 = ("clash" : Str)))).length : Int)))) = true then
 (.ex ⟨"NoFit", none⟩)
 else
 (nb (.ok picks_) fun (left_ : (List Str)) =>
 nb (.ok ([] : (List Str))) fun (found_ : (List Str)) =>
 Res.bind (fo (fun (piece_1 : (Str × List (List Str))) (s_ : ((List Str) × (List Str))) => (Res.bind (if (decide (piece_1.1 = ("clash" : Str))) = true then nb (popI s_.1 0) fun (p_ : (Str × (List Str))) =>
 Res.bind (F_picked piece_1 p_.1) fun (q_ : (List Str)) =>
 nb (cat s_.2 q_) fun (found_1 : (List Str)) =>
 .ok (p_.2, found_1) else nb (atW piece_1 (-1)) fun (t_ : (List Str)) =>
 nb (cat s_.2 t_) fun (found_2 : (List Str)) =>
 .ok (s_.1, found_2) : Res ((List Str) × (List Str))) fun (s_1 : ((List Str) × (List Str))) =>
 .ok (s_1.1, s_1.2) : Res ((List Str) × (List Str)))) told_ (left_, found_)) fun (s_2 : ((List Str) × (List Str))) =>
 nb (F_as_row s_2.2) fun (q_1 : (List Str)) =>
 .ok q_1)
noncomputable def F__law_kind (xc : Str) : Res Str :=
 nb (.ok [(exS xc ("BadRow" : Str)), (exS xc ("NoFit" : Str)), (exS xc ("BadTree" : Str)), (exS xc ("BadWeb" : Str))]) fun (marks_ : (List Bool)) =>
 nb (cat marks_ [(exS xc ("NoVersion" : Str)), (exS xc ("Clash" : Str))]) fun (marks_1 : (List Bool)) =>
 if ((!true) || ((!(decide (((marks_1.count true : Nat) : Int) = 1))) || (exS xc ("NoAsking" : Str)))) = true then
 (.ok ("other" : Str))
 else
 (nb (idxA marks_1 true) fun (t_1 : Int) =>
 nb (atL [("row" : Str), ("fit" : Str), ("tree" : Str), ("web" : Str), ("version" : Str), ("clash" : Str)] t_1) fun (t_2 : Str) =>
 .ok t_2)
noncomputable def F__law_settled (told_ : (List (Str × List (List Str)))) (picks_ : (List Str)) : Res (List Str) :=
 nb (.ok picks_) fun (left_ : (List Str)) =>
 nb (.ok ([] : (List Str))) fun (row_ : (List Str)) =>
 Res.bind (fo (fun (piece_ : (Str × List (List Str))) (s_ : ((List Str) × (List Str))) => (nb (atW piece_ (-1)) fun (lines_ : (List Str)) =>
 Res.bind (if (decide (piece_.1 = ("clash" : Str))) = true then nb (atW piece_ 1) fun (t_1 : (List Str)) =>
 nb (atW piece_ 2) fun (t_2 : (List Str)) =>
 nb (atW piece_ 3) fun (t_3 : (List Str)) =>
 nb (.ok [(("old" : Str), t_1), (("one" : Str), t_2), (("other" : Str), t_3)]) fun (some_ : (List (Str × (List Str)))) =>
 nb (.ok ([] : (List Str))) fun (lines_1 : (List Str)) =>
 nb (popI s_.1 0) fun (p_ : (Str × (List Str))) =>
 nb (splC p_.1 (" " : Str)) fun (t_4 : (List Str)) =>
 Res.bind (fo (fun (word_ : Str) (lines_2 : (List Str)) => (nb (getK some_ word_) fun (t_5 : (List Str)) =>
 nb (cat lines_2 t_5) fun (lines_3 : (List Str)) =>
 .ok lines_3 : Res (List Str))) t_4 lines_1) fun (lines_4 : (List Str)) =>
 .ok (p_.2, lines_4) else .ok (s_.1, lines_) : Res ((List Str) × (List Str))) fun (s_1 : ((List Str) × (List Str))) =>
 nb (cat s_.2 s_1.2) fun (row_1 : (List Str)) =>
 .ok (s_1.1, row_1) : Res ((List Str) × (List Str)))) told_ (left_, row_)) fun (s_2 : ((List Str) × (List Str))) =>
 .ok s_2.2
noncomputable def F__law_tried (told_ : (List (Str × List (List Str)))) (picks_ : (Option (List Str))) : Res (Str × (Option (List Str))) :=
 Res.bind (trF (fun (s_ : Unit) => grdQ exT fun (x_ : Exn) => (if exS x_.c ("PastError" : Str) = true then nox (nb (F__law_kind x_.c) fun (t_5 : Str) =>
 nb (if (decide (t_5 = ("clash" : Str))) = true then nb (pthXT x_.p) fun (t_6 : D) => nb ((decL decS) t_6) fun (t_7 : (List Str)) => .ok (!(decide (t_7 = ([] : (List Str))))) else .ok false) fun (t_8 : Bool) =>
 if t_8 = true then
 (.ok (.rt (("other" : Str), none)))
 else
 (nb (F__law_kind x_.c) fun (t_9 : Str) =>
 .ok (.rt (t_9, none))) : Res (Fl Unit (Str × (Option (List Str))))) else
 .ex x_ : Res (Fl Unit (Str × (Option (List Str)))))) (fun (hdhT14 : Unit → Exn → Res (Fl Unit (Str × (Option (List Str))))) => (if picks_.isNone = true then
 (exb (F_merged told_) (hdhT14 ()) fun (r_ : (List Str)) =>
 .ok (.rt (("told" : Str), (some r_))))
 else
 (nb (oget picks_) fun (t_10 : (List Str)) =>
 exb (F_settled told_ t_10) (hdhT14 ()) fun (r_1 : (List Str)) =>
 .ok (.rt (("told" : Str), (some r_1)))) : Res (Fl Unit (Str × (Option (List Str))))))) fun o => fin o (fun (s_1 : Unit) =>
 .bad) (fun r => .ok r)
noncomputable def F__law_right (told_ : (List (Str × List (List Str)))) (picks_ : (Option (List Str))) (due_ : (Option (List Str))) : Res Bool :=
 if due_.isNone = true then
 (nb (F__law_tried told_ picks_) fun (t_ : (Str × (Option (List Str)))) =>
 nb (atL [("fit" : Str), ("clash" : Str)] (b2i picks_.isNone)) fun (t_1 : Str) =>
 .ok (decide (t_.1 = t_1)))
 else
 (nb (rn1 2) fun (t_2 : (List Int)) =>
 Res.bind (lp (fun (lap_ : Int) (s_ : Unit) => (nb (F__law_tried told_ picks_) fun (found_ : (Str × (Option (List Str)))) =>
 if ((!(decide (found_.1 = ("told" : Str)))) || ((!found_.2.isSome) || (!(decide (found_.2 = due_))))) = true then
 (.ok (.rt false))
 else
 (nb (oget found_.2) fun (found_1 : (List Str)) =>
 nb (snoc found_1 ("q" : Str)) fun (l_ : (List Str)) => nb (.ok (found_.1, l_)) fun (found_2 : (Str × (List Str))) =>
 .ok (.nx ())) : Res (Fl Unit Bool))) t_2 ()) fun o => fin o (fun (s_1 : Unit) =>
 .ok true) (fun r => .ok r))
noncomputable def F_law (script_ : (List Int)) : Res Bool :=
 nb (F__law_three script_ 0 6) fun (rows_ : (List (List Str))) =>
 nb (atL rows_ 0) fun (t_1 : (List Str)) =>
 nb (atL rows_ 1) fun (t_2 : (List Str)) =>
 nb (atL rows_ 2) fun (t_3 : (List Str)) =>
 Res.bind (F_pieces t_1 t_2 t_3) fun (told_ : (List (Str × List (List Str)))) =>
 nb (comp (fun (piece_ : (Str × List (List Str))) => .ok true) (fun (piece_ : (Str × List (List Str))) => (nb (cutWh piece_ (some 1)) fun (t_5 : (Str × List (List Str))) => nb (cutW piece_ (some 1) none) fun (t_6 : (List (List Str))) => nb (catW t_5 (t_6.map fun (lines_ : (List Str)) => lines_)) fun (t_7 : (Str × List (List Str))) => .ok t_7 : Res (Str × List (List Str)))) told_) fun (kept_told_ : (List (Str × List (List Str)))) =>
 nb (.ok (told_.filter fun (piece_1 : (Str × List (List Str))) => (decide (piece_1.1 = ("clash" : Str))))) fun (clashes_ : (List (Str × List (List Str)))) =>
 nb (.ok ()) fun (due_ : Unit) =>
 Res.bind (if (decide ((clashes_.length : Int) = 0)) = true then nb (F__law_settled told_ ([] : (List Str))) fun (due_1 : (List Str)) =>
 .ok (some due_1) else .ok none : Res (Option (List Str))) fun (due_2 : (Option (List Str))) =>
 nb (F__law_right told_ none due_2) fun (t_10 : Bool) =>
 if (!t_10) = true then
 (.ok false)
 else
 (nb (.ok [("old" : Str), ("one" : Str), ("other" : Str), ("one other" : Str), ("other one" : Str)]) fun (words_ : (List Str)) =>
 nb (rn1 (clashes_.length : Int)) fun (t_11 : (List Int)) =>
 nb (comp (fun (k_ : Int) => .ok true) (fun (k_ : Int) => (nb (F__law_cell_at script_ (6 + k_)) fun (t_12 : Int) => nb (atL words_ (t_12 % 5)) fun (t_13 : Str) => .ok t_13 : Res Str)) t_11) fun (picks_ : (List Str)) =>
 nb (nb (F__law_settled told_ picks_) fun (t_15 : (List Str)) => .ok t_15) fun (due_3 : (List Str)) =>
 nb (F__law_cell_at script_ 5) fun (t_17 : Int) =>
 nb (.ok (t_17 % 4)) fun (way_ : Int) =>
 Res.bind (if (decide (way_ = 1)) = true then nb (cat picks_ [("one" : Str)]) fun (t_18 : (List Str)) =>
 nb (cat (cutL picks_ (some 1) none) (cutL [("both" : Str), ("One" : Str), ("" : Str), ("one one" : Str), ("other old" : Str)] none (some 1))) fun (t_19 : (List Str)) =>
 nb (atL [t_18, t_19] ((picks_.length : Int) % 2)) fun (picks_1 : (List Str)) =>
 nb (.ok ()) fun (due_4 : Unit) =>
 .ok (none, picks_1) else .ok ((some due_3), picks_) : Res ((Option (List Str)) × (List Str))) fun (s_ : ((Option (List Str)) × (List Str))) =>
 Res.bind (if ((decide (way_ = 3)) && (decide (0 < (s_.2.length : Int)))) = true then nb (.ok (cutL s_.2 (some 1) none)) fun (picks_2 : (List Str)) =>
 nb (.ok ()) fun (due_5 : Unit) =>
 .ok (none, picks_2) else .ok (s_.1, s_.2) : Res ((Option (List Str)) × (List Str))) fun (s_1 : ((Option (List Str)) × (List Str))) =>
 Res.bind (if ((decide (way_ = 2)) && (decide (0 < (s_1.2.length : Int)))) = true then nb (nb (F__law_cell_at script_ 13) fun (t_21 : Int) => nb (modI t_21 (s_1.2.length : Int)) fun (t_22 : Int) => .ok t_22) fun (at_ : Int) =>
 nb (F__law_cell_at script_ 14) fun (t_24 : Int) =>
 nb (atL [("both" : Str), ("One" : Str), ("" : Str), ("one one" : Str), ("old " : Str), ("other old" : Str)] (t_24 % 6)) fun (t_25 : Str) =>
 nb (setI s_1.2 at_ t_25) fun (picks_3 : (List Str)) =>
 nb (.ok ()) fun (due_6 : Unit) =>
 .ok (none, picks_3) else .ok (s_1.1, s_1.2) : Res ((Option (List Str)) × (List Str))) fun (s_2 : ((Option (List Str)) × (List Str))) =>
 nb (.ok s_2.2) fun (handed_ : (List Str)) =>
 nb (F__law_right told_ (some handed_) s_2.1) fun (t_26 : Bool) =>
 .ok (t_26 && ((decide (handed_ = s_2.2)) && (decide (told_ = kept_told_)))))
theorem settled_ok {L : List Pi} {ps : List Str} (h : ps.length = cl L) (ht : tot L ≤ 40) (hg : ∀ x ∈ L, ∀ z, z ∈ sd 0 x ∨ z ∈ sd 1 x ∨ z ∈ sd 2 x → gl z) : F_settled (L.map eP) ps = match stl L ps with
  | some l => .ok l
  | none => .ex ⟨"NoFit", none⟩ := by
 unfold F_settled
 rw [cl_map, h, decide_eq_true rfl, if_neg (by decide), nb_ok, nb_ok, settle_loop L ps [] h (by show 0 + tot L ≤ 1000; omega)]
 cases e : stl L ps with
 | none => rfl
 | some l =>
  obtain ⟨i1, i2⟩ := stl_in e
  show nb (F_as_row ([] ++ l)) _ = _
  rw [List.nil_append, F_as_row_ok ⟨by omega, fun z hz => by obtain ⟨x, x1, x2⟩ := i2 z hz; exact hg x x1 z x2⟩, nb_ok]
theorem settled_no {L : List Pi} {ps : List Str} (h : ps.length ≠ cl L) : F_settled (L.map eP) ps = .ex ⟨"NoFit", none⟩ := by
 unfold F_settled
 rw [cl_map, decide_eq_false (by omega), if_pos (by decide)]
theorem get_old {o m t : List Str} : getK [(("old" : Str), o), (("one" : Str), m), (("other" : Str), t)] ("old" : Str) = .ok o := by
 unfold getK; rw [List.lookup_cons, show (("old" : Str) == ("old" : Str)) = true by decide +kernel]
theorem get_one {o m t : List Str} : getK [(("old" : Str), o), (("one" : Str), m), (("other" : Str), t)] ("one" : Str) = .ok m := by
 unfold getK; rw [List.lookup_cons, show (("one" : Str) == ("old" : Str)) = false by decide +kernel, List.lookup_cons, show (("one" : Str) == ("one" : Str)) = true by decide +kernel]
theorem get_other {o m t : List Str} : getK [(("old" : Str), o), (("one" : Str), m), (("other" : Str), t)] ("other" : Str) = .ok t := by
 unfold getK; rw [List.lookup_cons, show (("other" : Str) == ("old" : Str)) = false by decide +kernel, List.lookup_cons, show (("other" : Str) == ("one" : Str)) = false by decide +kernel, List.lookup_cons, show (("other" : Str) == ("other" : Str)) = true by decide +kernel]
theorem spl_old : splC ("old" : Str) (" " : Str) = .ok ["old"] := by kernel_rfl
theorem spl_one : splC ("one" : Str) (" " : Str) = .ok ["one"] := by kernel_rfl
theorem spl_other : splC ("other" : Str) (" " : Str) = .ok ["other"] := by kernel_rfl
theorem spl_12 : splC ("one other" : Str) (" " : Str) = .ok ["one", "other"] := by kernel_rfl
theorem spl_21 : splC ("other one" : Str) (" " : Str) = .ok ["other", "one"] := by kernel_rfl
theorem law_pick {o m t : List Str} {p : Str} {R : Type} {K : List Str → Res R} (hp : p ∈ pwords) (h : o.length + m.length + t.length ≤ 1000) : (nb (splC p (" " : Str)) fun (t_4 : (List Str)) =>
 Res.bind (fo (fun (word_ : Str) (lines_2 : (List Str)) => (nb (getK [(("old" : Str), o), (("one" : Str), m), (("other" : Str), t)] word_) fun (t_5 : (List Str)) =>
 nb (cat lines_2 t_5) fun (lines_3 : (List Str)) =>
 .ok lines_3 : Res (List Str))) t_4 []) K) = match pk o m t p with
  | some l => K l
  | none => .bad := by
 unfold pwords at hp
 simp only [List.mem_cons, List.not_mem_nil, or_false] at hp
 have c1 : ∀ x : List Str, x.length ≤ 1000 → cat [] x = .ok x := fun x hx => by rw [cat_ok (by show 0 + x.length ≤ _; omega), List.nil_append]
 rcases hp with rfl | rfl | rfl | rfl | rfl
 ·rw [spl_old, nb_ok, fo, get_old, nb_ok, c1 _ (by omega), nb_ok, Res.bind_ok, fo, Res.bind_ok]
  unfold pk
  rw [if_pos rfl]
 ·rw [spl_one, nb_ok, fo, get_one, nb_ok, c1 _ (by omega), nb_ok, Res.bind_ok, fo, Res.bind_ok]
  unfold pk
  rw [if_neg (by decide +kernel), if_pos rfl]
 ·rw [spl_other, nb_ok, fo, get_other, nb_ok, c1 _ (by omega), nb_ok, Res.bind_ok, fo, Res.bind_ok]
  unfold pk
  rw [if_neg (by decide +kernel), if_neg (by decide +kernel), if_pos rfl]
 ·rw [spl_12, nb_ok, fo, get_one, nb_ok, c1 _ (by omega), nb_ok, Res.bind_ok, fo, get_other, nb_ok, cat_ok (by omega), nb_ok, Res.bind_ok, fo, Res.bind_ok]
  unfold pk
  rw [if_neg (by decide +kernel), if_neg (by decide +kernel), if_neg (by decide +kernel), if_pos rfl]
 ·rw [spl_21, nb_ok, fo, get_other, nb_ok, c1 _ (by omega), nb_ok, Res.bind_ok, fo, get_one, nb_ok, cat_ok (by omega), nb_ok, Res.bind_ok, fo, Res.bind_ok]
  unfold pk
  rw [if_neg (by decide +kernel), if_neg (by decide +kernel), if_neg (by decide +kernel), if_neg (by decide +kernel), if_pos rfl]
theorem law_settle_loop : ∀ (L : List Pi) (ps row : List Str), ps.length = cl L → (∀ p ∈ ps, p ∈ pwords) → row.length + tot L ≤ 1000 → ∃ l, stl L ps = some l ∧ fo (fun (piece_ : (Str × List (List Str))) (s_ : ((List Str) × (List Str))) => (nb (atW piece_ (-1)) fun (lines_ : (List Str)) =>
 Res.bind (if (decide (piece_.1 = ("clash" : Str))) = true then nb (atW piece_ 1) fun (t_1 : (List Str)) =>
 nb (atW piece_ 2) fun (t_2 : (List Str)) =>
 nb (atW piece_ 3) fun (t_3 : (List Str)) =>
 nb (.ok [(("old" : Str), t_1), (("one" : Str), t_2), (("other" : Str), t_3)]) fun (some_ : (List (Str × (List Str)))) =>
 nb (.ok ([] : (List Str))) fun (lines_1 : (List Str)) =>
 nb (popI s_.1 0) fun (p_ : (Str × (List Str))) =>
 nb (splC p_.1 (" " : Str)) fun (t_4 : (List Str)) =>
 Res.bind (fo (fun (word_ : Str) (lines_2 : (List Str)) => (nb (getK some_ word_) fun (t_5 : (List Str)) =>
 nb (cat lines_2 t_5) fun (lines_3 : (List Str)) =>
 .ok lines_3 : Res (List Str))) t_4 lines_1) fun (lines_4 : (List Str)) =>
 .ok (p_.2, lines_4) else .ok (s_.1, lines_) : Res ((List Str) × (List Str))) fun (s_1 : ((List Str) × (List Str))) =>
 nb (cat s_.2 s_1.2) fun (row_1 : (List Str)) =>
 .ok (s_1.1, row_1) : Res ((List Str) × (List Str)))) (L.map eP) (ps, row) = .ok ([], row ++ l)
 | [], ps, row, h, _, _ => by
  have : ps = [] := List.length_eq_zero_iff.mp h
  subst this
  exact ⟨[], by unfold stl; rfl, by rw [List.map_nil, fo, List.append_nil]⟩
 | x :: L, ps, row, h, hw, hl => by
  have htx : szP x + tot L = tot (x :: L) := rfl
  rw [List.map_cons]
  by_cases hc : isC x = true
  ·cases x with
   | clash o m t =>
    have hz : szP (.clash o m t) = o.length + m.length + t.length := rfl
    cases ps with
    | nil => rw [cl_c] at h; cases h
    | cons p ps =>
     rw [cl_c] at h
     obtain ⟨a, ha⟩ := pk_some (o := o) (m := m) (t := t) (hw p List.mem_cons_self)
     obtain ⟨j1, _⟩ := pk_in ha
     obtain ⟨b, hb, e⟩ := law_settle_loop L ps (row ++ a) (by simpa using h) (fun q hq => hw q (List.mem_cons_of_mem _ hq)) (by rw [List.length_append]; omega)
     refine ⟨a ++ b, by unfold stl; rw [ha, hb]; rfl, ?_⟩
     rw [fo, atW_last, nb_ok, eP_clash, show isC (.clash o m t) = true from rfl, if_pos rfl, show eP (.clash o m t) = (("clash" : Str), [o, m, t]) from rfl, atW1, nb_ok, atW2, nb_ok, atW3, nb_ok, nb_ok, nb_ok, popI_0, nb_ok, law_pick (hw p List.mem_cons_self) (by omega), ha]
     show Res.bind (Res.bind (Res.ok (ps, a)) fun s_1 => nb (cat row s_1.2) fun row_1 => Res.ok (s_1.1, row_1)) _ = _
     rw [Res.bind_ok, cat_ok (by show row.length + a.length ≤ _; omega), nb_ok, Res.bind_ok, e, List.append_assoc]
   | _ => cases hc
  ·have hc : isC x = false := by simpa using hc
   have := ltP_sz x
   obtain ⟨b, hb, e⟩ := law_settle_loop L ps (row ++ ltP x) (by rw [h, cl_no hc]) hw (by rw [List.length_append]; omega)
   refine ⟨ltP x ++ b, by rw [stl_no hc, hb]; rfl, ?_⟩
   rw [fo, atW_last, nb_ok, eP_clash, hc, if_neg (by decide), Res.bind_ok, cat_ok (by show row.length + (ltP x).length ≤ _; omega), nb_ok, Res.bind_ok, e, List.append_assoc]
theorem law_settled_ok {L : List Pi} {ps : List Str} (h : ps.length = cl L) (hw : ∀ p ∈ ps, p ∈ pwords) (ht : tot L ≤ 40) : ∃ l, stl L ps = some l ∧ F__law_settled (L.map eP) ps = .ok l := by
 obtain ⟨l, e1, e2⟩ := law_settle_loop L ps [] h hw (by show 0 + tot L ≤ 1000; omega)
 refine ⟨l, e1, ?_⟩
 unfold F__law_settled
 rw [nb_ok, nb_ok, e2, Res.bind_ok, List.nil_append]
theorem kind_of {c : Str} {l1 l2 : List Bool} {n : Nat} {w : Str} (h1 : [(exS c ("BadRow" : Str)), (exS c ("NoFit" : Str)), (exS c ("BadTree" : Str)), (exS c ("BadWeb" : Str))] = l1) (h2 : [(exS c ("NoVersion" : Str)), (exS c ("Clash" : Str))] = l2) (h3 : exS c ("NoAsking" : Str) = false)
  (h4 : (l1 ++ l2).count true = 1) (h5 : idxA (l1 ++ l2) true = .ok (n : Int)) (h6 : atL [("row" : Str), ("fit" : Str), ("tree" : Str), ("web" : Str), ("version" : Str), ("clash" : Str)] (n : Int) = .ok w) (h7 : l1.length ≤ 100) (h8 : l2.length ≤ 100) : F__law_kind c = .ok w := by
 unfold F__law_kind
 rw [h1, h2, nb_ok, cat_ok (by omega), nb_ok, h3, h4, if_neg (by decide), h5, nb_ok, h6, nb_ok]
theorem kind_clash : F__law_kind "Clash" = .ok "clash" := kind_of (n := 5) (l1 := [false, false, false, false]) (l2 := [false, true]) (by decide +kernel) (by decide +kernel) (by decide +kernel) (by decide) rfl rfl (by decide) (by decide)
theorem kind_fit : F__law_kind "NoFit" = .ok "fit" := kind_of (n := 1) (l1 := [false, true, false, false]) (l2 := [false, false]) (by decide +kernel) (by decide +kernel) (by decide +kernel) (by decide) rfl rfl (by decide) (by decide)
theorem past_Clash : exS "Clash" "PastError" = true := by decide +kernel
theorem past_NoFit : exS "NoFit" "PastError" = true := by decide +kernel
theorem in_Clash : decide (("Clash" : Str) ∈ exT) = true := by decide +kernel
theorem in_NoFit : decide (("NoFit" : Str) ∈ exT) = true := by decide +kernel
theorem grdQ_ok {β : Type} {h : Exn → Res β} {x : Exn} (hc : decide (x.c ∈ exT) = true) : grdQ exT h x = h x := by unfold grdQ; rw [if_pos hc]
theorem tried_fit {L : List (Str × List (List Str))} {ps : List Str} (h : F_settled L ps = .ex ⟨"NoFit", none⟩) : F__law_tried L (some ps) = .ok ("fit", none) := by
 unfold F__law_tried
 rw [show (some ps : Option (List Str)).isNone = false from rfl]
 simp only [if_neg Bool.false_ne_true, show oget (some ps) = .ok ps from rfl, nb_ok, h]
 show Res.bind (trF _ fun h => h () ⟨"NoFit", none⟩) _ = _
 unfold trF
 dsimp only
 rw [grdQ_ok in_NoFit, if_pos past_NoFit, kind_fit, nb_ok, ite_f (by decide +kernel), nb_ok]
 rfl
theorem tried_told {L : List (Str × List (List Str))} {ps l : List Str} (h : F_settled L ps = .ok l) : F__law_tried L (some ps) = .ok ("told", some l) := by
 unfold F__law_tried
 rw [show (some ps : Option (List Str)).isNone = false from rfl]
 simp only [if_neg Bool.false_ne_true, show oget (some ps) = .ok ps from rfl, nb_ok, h]
 rfl
theorem tried_clash {L : List (Str × List (List Str))} (h : F_merged L = .ex ⟨"Clash", some (eL eI [])⟩) : F__law_tried L none = .ok ("clash", none) := by
 unfold F__law_tried
 simp only [show (none : Option (List Str)).isNone = true from rfl, if_true, h]
 show Res.bind (trF _ fun h => h () ⟨"Clash", some (eL eI [])⟩) _ = _
 unfold trF
 dsimp only
 rw [grdQ_ok in_Clash, if_pos past_Clash, kind_clash, nb_ok, ite_t rfl]
 show Res.bind (nox (nb (nb (.ok (eL eI [])) _) _)) _ = _
 rw [nb_ok, show decL decS (eL eI []) = .ok ([] : List Str) from rfl, nb_ok, nb_ok]
 rfl
theorem tried_merged {L : List (Str × List (List Str))} {l : List Str} (h : F_merged L = .ok l) : F__law_tried L none = .ok ("told", some l) := by
 unfold F__law_tried
 simp only [show (none : Option (List Str)).isNone = true from rfl, if_true, h]
 rfl
theorem right_no {L : List (Str × List (List Str))} {ps : Option (List Str)} {w : Str} (h : F__law_tried L ps = .ok (w, none)) (hw : atL [("fit" : Str), ("clash" : Str)] (b2i ps.isNone) = .ok w) : F__law_right L ps none = .ok true := by
 unfold F__law_right
 rw [show (none : Option (List Str)).isNone = true from rfl, if_pos rfl, h, nb_ok, hw, nb_ok]
 show Res.ok (decide (w = w)) = _
 rw [decide_eq_true rfl]
theorem right_told {L : List (Str × List (List Str))} {ps : Option (List Str)} {l : List Str} (h : F__law_tried L ps = .ok ("told", some l)) (hl : l.length ≤ 1000) : F__law_right L ps (some l) = .ok true := by
 unfold F__law_right
 rw [show (some l : Option (List Str)).isNone = false from rfl, if_neg Bool.false_ne_true, show rn1 2 = .ok [0, 1] from rn1_nat (n := 2) (by omega), nb_ok, lp_none (fun x _ => ?_), Res.bind_ok]
 ·rfl
 ·rw [h, nb_ok]
  show (if ((!decide (("told" : Str) = "told")) || ((!true) || (!decide (some l = some l)))) = true then _ else nb (.ok l) _) = _
  rw [decide_eq_true rfl, decide_eq_true rfl, if_neg (by decide), nb_ok, snoc_ok (by omega), nb_ok, nb_ok]
theorem comp_len {α β : Type} {q : α → Res β} {Q : β → Prop} : ∀ {xs : List α}, (∀ x ∈ xs, ∃ y, q x = .ok y ∧ Q y) → ∃ l, comp (fun _ => .ok true) q xs = .ok l ∧ l.length = xs.length ∧ ∀ y ∈ l, Q y
 | [], _ => ⟨[], rfl, rfl, fun y hy => (nomatch hy)⟩
 | x :: xs, h => by
  obtain ⟨y, e, hy⟩ := h x List.mem_cons_self
  obtain ⟨l, e2, n, hl⟩ := comp_len (q := q) (Q := Q) (xs := xs) fun z hz => h z (List.mem_cons_of_mem _ hz)
  refine ⟨y :: l, ?_, by rw [List.length_cons, List.length_cons, n], fun z hz => ?_⟩
  ·unfold comp
   dsimp only
   rw [e, nb_ok, e2, nb_ok]
  ·rcases List.mem_cons.mp hz with rfl | hz
   ·exact hy
   ·exact hl z hz
theorem cwh1 (w : Str) (l : List (List Str)) (h : 1 ≤ l.length) : cutWh (w, l) (some 1) = .ok (w, []) := by
 unfold cutWh
 dsimp only
 rw [if_pos (by omega)]
 rfl
theorem kept_same : ∀ L : List Pi, comp (fun (piece_ : (Str × List (List Str))) => .ok true) (fun (piece_ : (Str × List (List Str))) => (nb (cutWh piece_ (some 1)) fun (t_5 : (Str × List (List Str))) => nb (cutW piece_ (some 1) none) fun (t_6 : (List (List Str))) => nb (catW t_5 (t_6.map fun (lines_ : (List Str)) => lines_)) fun (t_7 : (Str × List (List Str))) => .ok t_7 : Res (Str × List (List Str)))) (L.map eP) = .ok (L.map eP) := fun L => by
 rw [comp_map (q' := fun x => x)]
 ·rw [List.map_id']
 ·intro x hx
  obtain ⟨y, _, rfl⟩ := List.mem_map.mp hx
  have e : ∀ (w : Str) (l : List (List Str)), 1 ≤ l.length ∧ l.length ≤ 3 → (nb (cutWh (w, l) (some 1)) fun (t_5 : (Str × List (List Str))) => nb (cutW (w, l) (some 1) none) fun (t_6 : (List (List Str))) => nb (catW t_5 (t_6.map fun (lines_ : (List Str)) => lines_)) fun (t_7 : (Str × List (List Str))) => (.ok t_7 : Res (Str × List (List Str)))) = .ok (w, l) := fun w l hl => by
   rw [cwh1 _ _ hl.1, nb_ok, cw1', nb_ok, List.map_id']
   unfold catW
   rw [chk_ok (by have := hl.2; show 0 + l.length < _; omega), nb_ok]
   rfl
  cases y <;> exact e _ _ ⟨Nat.le_of_ble_eq_true rfl, Nat.le_of_ble_eq_true rfl⟩
theorem stl_all : ∀ L : List Pi, cl L = 0 → stl L [] = some (L.flatMap ltP)
 | [], _ => rfl
 | x :: L, h => by
  by_cases hc : isC x = true
  ·cases x with
   | clash o m t => rw [cl_c] at h; omega
   | _ => cases hc
  ·have hc : isC x = false := by simpa using hc
   rw [cl_no hc] at h
   rw [stl_no hc, stl_all L h]; rfl
theorem lts_rev : ∀ g : List Pi, g.reverse.flatMap ltP = lts g
 | [] => rfl
 | x :: g => by rw [List.reverse_cons, List.flatMap_append, lts_rev g, List.flatMap_cons, List.flatMap_nil, List.append_nil]; rfl
theorem any_cl (L : List Pi) : L.any isC = true ↔ 0 < cl L := by
 unfold cl
 rw [List.length_pos_iff_exists_mem, List.any_eq_true]
 exact ⟨fun ⟨x, a, b⟩ => ⟨x, List.mem_filter.mpr ⟨a, b⟩⟩, fun ⟨x, h⟩ => ⟨x, (List.mem_filter.mp h).1, (List.mem_filter.mp h).2⟩⟩
theorem sds_mem {w : Nat} : ∀ {g : List Pi} {x : Pi} {z : Str}, x ∈ g → z ∈ sd w x → z ∈ sds w g
 | y :: g, x, z, h, hz => by
  unfold sds
  rcases List.mem_cons.mp h with rfl | h
  ·exact List.mem_append_right _ hz
  ·exact List.mem_append_left _ (sds_mem h hz)
theorem bad_words : ∀ w ∈ [("both" : Str), "One", "", "one one", "old ", "other old"], w ∉ pwords := by decide +kernel
theorem both_bad : ("both" : Str) ∉ pwords := by decide +kernel
theorem at_words {x : Int} : ∃ w, atL [("old" : Str), ("one" : Str), ("other" : Str), ("one other" : Str), ("other one" : Str)] (x % 5) = .ok w ∧ w ∈ pwords := by
 have h0 : 0 ≤ x % 5 := by omega
 have hl : (x % 5).toNat < pwords.length := by show (x % 5).toNat < 5; omega
 exact ⟨_, atL_in h0 (List.getElem?_eq_getElem hl), List.getElem_mem hl⟩
theorem at_bad {x : Int} : ∃ w, atL [("both" : Str), ("One" : Str), ("" : Str), ("one one" : Str), ("old " : Str), ("other old" : Str)] (x % 6) = .ok w ∧ w ∉ pwords := by
 have h0 : 0 ≤ x % 6 := by omega
 have hl : (x % 6).toNat < [("both" : Str), "One", "", "one one", "old ", "other old"].length := by show (x % 6).toNat < 6; omega
 exact ⟨_, atL_in h0 (List.getElem?_eq_getElem hl), bad_words _ (List.getElem_mem hl)⟩
theorem F_law_true (ns : List Int) : F_law ns = .ok true := by
 obtain ⟨A, B, C, e, gA, gB, gC, lA, lB, lC⟩ := three_ok ns (at_ := 0) (most := 6) (by omega) (by omega) (by omega)
 obtain ⟨p1, _, s0, s1, s2, ln⟩ := pieces_ok gA gB gC
 generalize hg : pcsK A B C = g at *
 have eL : eR g = g.reverse.map eP := rfl
 have ht : tot g.reverse ≤ 18 := by rw [tot_rev, s0, s1, s2]; omega
 have hgl : ∀ x ∈ g.reverse, ∀ z, z ∈ sd 0 x ∨ z ∈ sd 1 x ∨ z ∈ sd 2 x → gl z := fun x hx z hz => by
  have hx := List.mem_reverse.mp hx
  rcases hz with hz | hz | hz
  ·exact gA.2 z (s0 ▸ sds_mem hx hz)
  ·exact gB.2 z (s1 ▸ sds_mem hx hz)
  ·exact gC.2 z (s2 ▸ sds_mem hx hz)
 have hclen : cl g.reverse ≤ 100 := by
  have : cl g.reverse ≤ g.reverse.length := List.length_filter_le _ _
  rw [List.length_reverse] at this
  omega
 have hmg : g.any isC = g.reverse.any isC := by rw [List.any_reverse]
 unfold F_law
 rw [e, nb_ok, show atL [A, B, C] 0 = .ok A from rfl, nb_ok, show atL [A, B, C] 1 = .ok B from rfl, nb_ok, show atL [A, B, C] 2 = .ok C from rfl, nb_ok, p1, Res.bind_ok, eL, kept_same, nb_ok, nb_ok, nb_ok, cl_map]
 have first : ∀ {R : Type} (K : Option (List Str) → Res R) (r : Res R), (∀ due, F__law_right (g.reverse.map eP) none due = .ok true → K due = r) → Res.bind (if (decide (((cl g.reverse : Nat) : Int) = 0)) = true then nb (F__law_settled (g.reverse.map eP) ([] : List Str)) fun (due_1 : (List Str)) =>
 .ok (some due_1) else .ok none : Res (Option (List Str))) K = r := fun K r hk => by
  by_cases h0 : cl g.reverse = 0
  ·obtain ⟨l, e1, e2⟩ := law_settled_ok (L := g.reverse) (ps := []) h0.symm (fun p hp => (nomatch hp)) (by omega)
   rw [stl_all _ h0, lts_rev] at e1
   cases e1
   rw [ite_t (by omega), e2, nb_ok, Res.bind_ok]
   refine hk _ (right_told (tried_merged ?_) ?_)
   ·have hc : g.any isC = false := by
     rw [hmg, Bool.eq_false_iff]
     exact fun z => absurd ((any_cl _).mp z) (by omega)
    exact merged_ok gB gC (by omega) s1 s2 hc
   ·have := (lts_in (g := g)).1
    rw [s1, s2] at this
    omega
  ·rw [ite_f (by omega), Res.bind_ok]
   refine hk _ (right_no (w := "clash") (tried_clash ?_) rfl)
   have hc : g.any isC = true := by rw [hmg]; exact (any_cl _).mpr (by omega)
   unfold F_merged
   rw [← eL, has_clash_ok, nb_ok, hc, if_pos rfl, nb_ok]
 refine first _ _ fun due hdue => ?_
 rw [hdue, nb_ok, if_neg (by decide), nb_ok, rn1_nat (by omega), nb_ok]
 obtain ⟨ps, c1, c2, c3⟩ := comp_len (Q := fun w => w ∈ pwords) (q := fun (k_ : Int) => (nb (F__law_cell_at ns (6 + k_)) fun (t_12 : Int) => nb (atL [("old" : Str), ("one" : Str), ("other" : Str), ("one other" : Str), ("other one" : Str)] (t_12 % 5)) fun (t_13 : Str) => .ok t_13 : Res Str)) (xs := (List.range (cl g.reverse)).map fun (i : Nat) => (i : Int)) fun k hk => by
  obtain ⟨i, _, rfl⟩ := List.mem_map.mp hk
  obtain ⟨x, hx⟩ := cell_at_ok ns (k := 6 + (i : Int)) (by omega)
  obtain ⟨w, hw, hp⟩ := at_words (x := x)
  exact ⟨w, by rw [hx, nb_ok, hw, nb_ok], hp⟩
 rw [List.length_map, List.length_range] at c2
 obtain ⟨l, e1, e2⟩ := law_settled_ok (L := g.reverse) c2 c3 (by omega)
 obtain ⟨w5, h5⟩ := cell_at_ok ns (k := 5) (by omega)
 rw [c1, nb_ok, e2, nb_ok, nb_ok, h5, nb_ok, nb_ok]
 have fin : ∀ (qs : List Str) (due : Option (List Str)), F__law_right (g.reverse.map eP) (some qs) due = .ok true → (nb (.ok qs) fun (handed_ : (List Str)) =>
 nb (F__law_right (g.reverse.map eP) (some handed_) due) fun (t_26 : Bool) =>
 .ok (t_26 && ((decide (handed_ = qs)) && (decide (g.reverse.map eP = g.reverse.map eP)))) : Res Bool) = .ok true := fun qs due h => by
  rw [nb_ok, h, nb_ok, decide_eq_true rfl, decide_eq_true rfl]; rfl
 have good : F__law_right (g.reverse.map eP) (some ps) (some l) = .ok true := right_told (tried_told (by rw [settled_ok c2 (by omega) hgl, e1])) (by have := (stl_in e1).1; omega)
 have badN : ∀ {qs : List Str}, qs.length ≠ cl g.reverse → F__law_right (g.reverse.map eP) (some qs) none = .ok true := fun {qs} h => right_no (w := "fit") (tried_fit (settled_no h)) rfl
 have badW : ∀ {qs : List Str}, qs.length = cl g.reverse → (∃ q ∈ qs, q ∉ pwords) → F__law_right (g.reverse.map eP) (some qs) none = .ok true := fun {qs} h hq => right_no (w := "fit") (tried_fit (by rw [settled_ok h (by omega) hgl, stl_bad h hq])) rfl
 by_cases w1 : w5 % 4 = 1
 ·rw [ite_t w1, cat_ok (by show ps.length + 1 ≤ _; omega), nb_ok, show cutL [("both" : Str), ("One" : Str), ("" : Str), ("one one" : Str), ("other old" : Str)] none (some 1) = [("both" : Str)] from rfl, show cutL ps (some 1) none = ps.drop 1 from by
   have := cut_from (x := "q" :: ps) (i := 1) (by rw [List.length_cons]; omega)
   cases ps with
   | nil => rfl
   | cons p ps => exact cut_from (x := p :: ps) (i := 1) (by rw [List.length_cons]; omega), cat_ok (by rw [List.length_drop]; show _ + 1 ≤ _; omega), nb_ok]
  by_cases ev : ps.length % 2 = 0
  ·rw [show ((ps.length : Int) % 2) = 0 by omega, show atL [ps ++ [("one" : Str)], ps.drop 1 ++ [("both" : Str)]] 0 = .ok (ps ++ [("one" : Str)]) from rfl, nb_ok, nb_ok, Res.bind_ok, decide_eq_false (by omega), Bool.false_and, if_neg (by decide), Res.bind_ok, decide_eq_false (by omega), Bool.false_and, if_neg (by decide), Res.bind_ok]
   exact fin _ _ (badN (by rw [List.length_append, c2]; show _ + 1 ≠ _; omega))
  ·rw [show ((ps.length : Int) % 2) = 1 by omega, show atL [ps ++ [("one" : Str)], ps.drop 1 ++ [("both" : Str)]] 1 = .ok (ps.drop 1 ++ [("both" : Str)]) from rfl, nb_ok, nb_ok, Res.bind_ok, decide_eq_false (by omega), Bool.false_and, if_neg (by decide), Res.bind_ok, decide_eq_false (by omega), Bool.false_and, if_neg (by decide), Res.bind_ok]
   exact fin _ _ (badW (by rw [List.length_append, List.length_drop, c2]; show _ - 1 + 1 = _; omega) ⟨"both", List.mem_append_right _ (by simp), both_bad⟩)
 ·rw [ite_f w1, Res.bind_ok]
  by_cases w3 : w5 % 4 = 3
  ·by_cases hp : 0 < ps.length
   ·rw [decide_eq_true w3, decide_eq_true (show (0 : Int) < (ps.length : Int) by omega), if_pos (by decide), nb_ok, nb_ok, Res.bind_ok, decide_eq_false (by omega), Bool.false_and, if_neg (by decide), Res.bind_ok]
    refine fin _ _ (badN ?_)
    rw [show cutL ps (some 1) none = ps.drop 1 from cut_from (x := ps) (i := 1) (by omega), List.length_drop, c2]
    omega
   ·rw [decide_eq_false (show ¬(0 : Int) < (ps.length : Int) by omega), Bool.and_false, if_neg (by decide), Res.bind_ok, decide_eq_false (show ¬(0 : Int) < (ps.length : Int) by omega), Bool.and_false, if_neg (by decide), Res.bind_ok]
    exact fin _ _ good
  ·rw [decide_eq_false w3, Bool.false_and, if_neg (by decide), Res.bind_ok]
   by_cases w2 : w5 % 4 = 2
   ·by_cases hp : 0 < ps.length
    ·obtain ⟨x13, h13⟩ := cell_at_ok ns (k := 13) (by omega)
     obtain ⟨x14, h14⟩ := cell_at_ok ns (k := 14) (by omega)
     obtain ⟨w, hw, hb⟩ := at_bad (x := x14)
     have hm0 : 0 ≤ x13 % (ps.length : Int) := Int.emod_nonneg _ (by omega)
     have hm1 : x13 % (ps.length : Int) < (ps.length : Int) := Int.emod_lt_of_pos _ (by omega)
     rw [decide_eq_true w2, decide_eq_true (show (0 : Int) < (ps.length : Int) by omega), if_pos (by decide), h13, nb_ok, modI_ok (show (0 : Int) < (ps.length : Int) by omega), nb_ok, nb_ok, h14, nb_ok, hw, nb_ok, setI_in hm0 hm1, nb_ok, nb_ok, Res.bind_ok]
     refine fin _ _ (badW (by rw [List.length_set, c2]) ⟨w, ?_, hb⟩)
     exact List.mem_set ((Int.toNat_lt hm0).mpr hm1) _
    ·rw [decide_eq_false (show ¬(0 : Int) < (ps.length : Int) by omega), Bool.and_false, if_neg (by decide), Res.bind_ok]
     exact fin _ _ good
   ·rw [decide_eq_false w2, Bool.false_and, if_neg (by decide), Res.bind_ok]
    exact fin _ _ good
end FL
namespace FL
open PySem PySem.Spec PyProof.Rows L2
noncomputable def B_is_line : En → Flw := (ret (andD (op2 leD (cal lenL (consA (v 0) nilA)) (c (.int 8))) (cal allD (consA (fzE (lcD [1] (it1 itQ (v 0)) (sN 1) yes (ofE (op2 inK (v 1) (c (.str ("abcdefghijklmnopqrstuvwxyz" : Str))))))) nilA))))
noncomputable def D_is_line : List D → Res OT := run 1 2 B_is_line
noncomputable def B_is_row : En → Flw := (ret (andD (op2 leD (cal lenL (consA (v 0) nilA)) (c (.int 40))) (cal allD (consA (fzE (lcD [1] (it1 itQ (v 0)) (sN 1) yes (call (nx0 D_is_line) (consA (v 1) nilA)))) nilA))))
noncomputable def D_is_row : List D → Res OT := run 1 2 B_is_row
noncomputable def B_check_row : En → Flw := (ifF (notT (tst (fzE (call (nx0 D_is_row) (consA (v 0) nilA)))))
 (raF ("BadRow" : Str))
 .nx)
noncomputable def D_check_row : List D → Res OT := run 1 1 B_check_row
noncomputable def B_has_clash : En → Flw := (ret (cal anyD (consA (fzE (lcD [1] (it1 itQ (v 0)) (sN 1) yes (ofE (op2 eqD (op2 ixD (v 1) (c (.int 0))) (c (.str ("clash" : Str))))))) nilA)))
noncomputable def D_has_clash : List D → Res OT := run 1 2 B_has_clash
noncomputable def B_as_row : En → Flw := (seqF (drp (fzE (borO (call D_check_row (consA (v 0) nilA)))))
 (retM 0))
noncomputable def D_as_row : List OT → ResG := runG 1 1 [false] B_as_row
noncomputable def B_merged_lines_1 : En → Flw := (seqF (ext 1 (op2 ixD (v 2) (op1 negD (c (.int 1)))))
 (fgF 2 .nx))
noncomputable def B_merged_lines : En → Flw := (seqF (asgO 1 (cal mkO nilA))
 (seqF (forF (it1 itQ (v 0)) (sN 2)
 B_merged_lines_1)
 (fgF 2 (retM 1))))
noncomputable def D_merged_lines : List D → Res OT := run 1 3 B_merged_lines
noncomputable def B_merged : En → Flw := (seqF (ifF (tst (fzE (call (nx0 D_has_clash) (consA (v 0) nilA))))
 (raP ("Clash" : Str) (cal mkL nilA))
 .nx)
 (retX (callG [false] D_as_row (consX (xO (call (nx0 D_merged_lines) (consA (v 0) nilA))) nilX))))
noncomputable def D_merged : List D → Res OT := run 1 1 B_merged
noncomputable def B_picked : En → Flw := (seqF (asgG (sT 3 (sCons (sN 2) (sCons (sN 3) (sCons (sN 4) sNil)))) (sli (v 0) (part (c (.int 1))) noP))
 (seqF (ifF (tst (op2 eqD (v 1) (c (.str ("old" : Str)))))
 (ret (v 2))
 .nx)
 (seqF (ifF (tst (op2 eqD (v 1) (c (.str ("one" : Str)))))
 (ret (v 3))
 .nx)
 (seqF (ifF (tst (op2 eqD (v 1) (c (.str ("other" : Str)))))
 (ret (v 4))
 .nx)
 (seqF (ifF (tst (op2 eqD (v 1) (c (.str ("one other" : Str)))))
 (ret (op2 addD (v 3) (v 4)))
 .nx)
 (seqF (ifF (tst (op2 eqD (v 1) (c (.str ("other one" : Str)))))
 (ret (op2 addD (v 4) (v 3)))
 .nx)
 (raF ("NoFit" : Str))))))))
noncomputable def D_picked : List D → Res OT := run 2 5 B_picked
noncomputable def B_settled_1 : En → Flw := (seqF (ifF (tst (op2 eqD (op2 ixD (v 4) (c (.int 0))) (c (.str ("clash" : Str)))))
 (extX 3 (callD D_picked (consX (xF (v 4)) (consX (mtT "list" 2 popAtG (hereP 2) (consX (xF (c (.int 0))) nilX)) nilX))))
 (ext 3 (op2 ixD (v 4) (op1 negD (c (.int 1))))))
 (fgF 4 .nx))
noncomputable def B_settled : En → Flw := (seqF (ifF (tst (op2 neD (cal lenL (consA (v 1) nilA)) (cal lenL (consA (fzE (lcD [4] (it1 itQ (v 0)) (sN 4) (tst (op2 eqD (op2 ixD (v 4) (c (.int 0))) (c (.str ("clash" : Str))))) (ofE (v 4)))) nilA))))
 (raF ("NoFit" : Str))
 .nx)
 (seqF (asgO 2 (cal listO (consA (v 1) nilA)))
 (seqF (asgO 3 (cal mkO nilA))
 (seqF (forF (it1 itQ (v 0)) (sN 4)
 B_settled_1)
 (fgF 4 (retX (callG [false] D_as_row (consX (mvX 3) nilX))))))))
noncomputable def D_settled : List D → Res OT := run 2 5 B_settled
noncomputable def B_check_two : En → Flw := (seqF (drp (fzE (call D_check_row (consA (v 0) nilA))))
 (drp (fzE (call D_check_row (consA (v 1) nilA)))))
noncomputable def D_check_two : List D → Res OT := run 2 2 B_check_two
noncomputable def B_most_kept_1 : En → Flw := (seqF (setLL 2 (v 3) (v 4) (cal max2 (consA (oix2 2 (op2 addD (v 3) (c (.int 1))) (v 4)) (consA (oix2 2 (v 3) (op2 addD (v 4) (c (.int 1)))) nilA))))
 (seqF (ifF (tst (op2 eqD (op2 ixD (v 0) (v 3)) (op2 ixD (v 1) (v 4))))
 (setLL 2 (v 3) (v 4) (cal max2 (consA (oix2 2 (v 3) (v 4)) (consA (op2 addD (oix2 2 (op2 addD (v 3) (c (.int 1))) (op2 addD (v 4) (c (.int 1)))) (c (.int 1))) nilA))))
 .nx)
 (fgF 4 .nx)))
noncomputable def B_most_kept_2 : En → Flw := (seqF (forF (itA rg3 (consA (op2 subD (cal lenL (consA (v 1) nilA)) (c (.int 1))) (consA (op1 negD (c (.int 1))) (consA (op1 negD (c (.int 1))) nilA)))) (sN 4)
 B_most_kept_1)
 (fgF 3 (fgF 4 .nx)))
noncomputable def B_most_kept : En → Flw := (seqF (asgO 2 (lcD [5] (itA rg1 (consA (op2 addD (cal lenL (consA (v 0) nilA)) (c (.int 1))) nilA)) (sN 5) yes (lcD [6] (itA rg1 (consA (op2 addD (cal lenL (consA (v 1) nilA)) (c (.int 1))) nilA)) (sN 6) yes (ofE (c (.int 0))))))
 (seqF (forF (itA rg3 (consA (op2 subD (cal lenL (consA (v 0) nilA)) (c (.int 1))) (consA (op1 negD (c (.int 1))) (consA (op1 negD (c (.int 1))) nilA)))) (sN 3)
 B_most_kept_2)
 (fgF 3 (fgF 4 (retM 2)))))
noncomputable def D_most_kept : List D → Res OT := run 2 7 B_most_kept
noncomputable def B_first_pair_1 : En → Flw := (seqF (ifF (andT (tst (op2 eqD (op2 ixD (v 0) (v 5)) (op2 ixD (v 1) (v 6)))) (tst (op2 eqD (op2 addD (op2 ixD (op2 ixD (v 2) (op2 addD (v 5) (c (.int 1)))) (op2 addD (v 6) (c (.int 1)))) (c (.int 1))) (op2 ixD (op2 ixD (v 2) (v 3)) (v 4)))))
 (ret (cal mkT (consA (v 5) (consA (v 6) nilA))))
 .nx)
 (fgF 6 .nx))
noncomputable def B_first_pair_2 : En → Flw := (seqF (forF (itA rg2 (consA (v 4) (consA (cal lenL (consA (v 1) nilA)) nilA))) (sN 6)
 B_first_pair_1)
 (fgF 5 (fgF 6 .nx)))
noncomputable def B_first_pair : En → Flw := (seqF (forF (itA rg2 (consA (v 3) (consA (cal lenL (consA (v 0) nilA)) nilA))) (sN 5)
 B_first_pair_2)
 (fgF 5 (fgF 6 (ret (c .non)))))
noncomputable def D_first_pair : List D → Res OT := run 5 7 B_first_pair
noncomputable def B_kept_by_1 : En → Flw := (seqF (asg 6 (fzE (call (nx0 D_first_pair) (consA (v 0) (consA (v 1) (consA (v 2) (consA (v 4) (consA (v 5) nilA))))))))
 (seqF (app 3 (v 6))
 (seqF (asg 4 (op2 addD (op2 ixD (v 6) (c (.int 0))) (c (.int 1))))
 (seqF (asg 5 (op2 addD (op2 ixD (v 6) (c (.int 1))) (c (.int 1))))
 (fgF 6 .nx)))))
noncomputable def B_kept_by : En → Flw := (seqF (asg 2 (fzE (call (nx0 D_most_kept) (consA (v 0) (consA (v 1) nilA)))))
 (seqF (asgO 3 (cal mkO nilA))
 (seqF (asg 4 (c (.int 0)))
 (seqF (asg 5 (c (.int 0)))
 (seqF (whF (tst (op2 gtD (op2 ixD (op2 ixD (v 2) (v 4)) (v 5)) (c (.int 0))))
 B_kept_by_1)
 (fgF 4 (fgF 5 (fgF 6 (retM 3)))))))))
noncomputable def D_kept_by : List D → Res OT := run 2 7 B_kept_by
noncomputable def B_kept : En → Flw := (seqF (drp (fzE (call D_check_two (consA (v 0) (consA (v 1) nilA)))))
 (retO (call (nx0 D_kept_by) (consA (v 0) (consA (v 1) nilA)))))
noncomputable def D_kept : List D → Res OT := run 2 2 B_kept
noncomputable def B_held : En → Flw := (seqF (asg 3 (fzE (cal dictO (consA (fzE (call D_kept (consA (v 0) (consA (v 2) nilA)))) nilA))))
 (retO (lcD [4, 5] (it1 itQ (fzE (call D_kept (consA (v 0) (consA (v 1) nilA))))) (sT 2 (sCons (sN 4) (sCons (sN 5) sNil))) (tst (op2 inK (v 4) (v 3))) (ofE (cal mkT (consA (v 4) (consA (v 5) (consA (op2 ixD (v 3) (v 4)) nilA))))))))
noncomputable def D_held : List D → Res OT := run 3 6 B_held
noncomputable def B_add_same : En → Flw := (seqF (ifF (tst (op2 eqD (cal lenL (consA (v 1) nilA)) (c (.int 0))))
 retN
 .nx)
 (seqF (ifF (borT (andT (tst (op2 gtD (cal lenL (consA (v 0) nilA)) (c (.int 0)))) (tst (op2 eqD (op2 ixD (op2 ixD (v 0) (op1 negD (c (.int 1)))) (c (.int 0))) (c (.str ("same" : Str)))))))
 (asgX 1 (op2Y addD (mapX (mtT "list" 0 popG (hereP 0) nilX) (op2X ixD (c (.int 1)))) (xF (v 1))))
 .nx)
 (app 0 (cal mkT (consA (c (.str ("same" : Str))) (consA (fzE (cal listO (consA (v 1) nilA))) nilA))))))
noncomputable def D_add_same : List OT → ResG := runG 2 2 [true, false] B_add_same
noncomputable def B_add_stretch : En → Flw := (ifF (andT (tst (op2 eqD (v 1) (v 2))) (tst (op2 eqD (v 1) (v 3))))
 (drpX (callG [true, false] (nxG D_add_same) (lendX 0 (hereP 0) (consX (xF (v 1)) nilX))))
 (ifF (tst (op2 eqD (v 1) (v 2)))
 (app 0 (cal mkT (consA (c (.str ("other" : Str))) (consA (v 1) (consA (v 3) nilA)))))
 (ifF (tst (op2 eqD (v 1) (v 3)))
 (app 0 (cal mkT (consA (c (.str ("one" : Str))) (consA (v 1) (consA (v 2) nilA)))))
 (ifF (tst (op2 eqD (v 2) (v 3)))
 (app 0 (cal mkT (consA (c (.str ("both" : Str))) (consA (v 1) (consA (v 2) nilA)))))
 (app 0 (cal mkT (consA (c (.str ("clash" : Str))) (consA (v 1) (consA (v 2) (consA (v 3) nilA))))))))))
noncomputable def D_add_stretch : List OT → ResG := runG 4 4 [true, false, false, false] B_add_stretch
noncomputable def B_pieces_1 : En → Flw := (seqF (drp (fzE (call D_check_row (consA (v 3) nilA))))
 (fgF 3 .nx))
noncomputable def B_pieces_2 : En → Flw := (seqF (drpX (callG [true, false, false, false] (nxG D_add_stretch) (lendX 4 (hereP 4) (consX (xF (sli (v 0) (part (v 5)) (part (v 8)))) (consX (xF (sli (v 1) (part (v 6)) (part (v 9)))) (consX (xF (sli (v 2) (part (v 7)) (part (v 10)))) nilX))))))
 (seqF (drpX (callG [true, false] (nxG D_add_same) (lendX 4 (hereP 4) (consX (xF (cal mkL (consA (op2 ixD (v 0) (v 8)) nilA))) nilX))))
 (seqF (parO3 5 6 7 (ofE (op2 addD (v 8) (c (.int 1)))) (ofE (op2 addD (v 9) (c (.int 1)))) (ofE (op2 addD (v 10) (c (.int 1)))))
 (fgF 8 (fgF 9 (fgF 10 .nx))))))
noncomputable def B_pieces : En → Flw := (seqF (forF (it1 itQ (cal mkT (consA (v 0) (consA (v 1) (consA (v 2) nilA))))) (sN 3)
 B_pieces_1)
 (fgF 3 (seqF (asgO 4 (cal mkO nilA))
 (seqF (asgG (sT 3 (sCons (sN 5) (sCons (sN 6) (sCons (sN 7) sNil)))) (cal mkT (consA (c (.int 0)) (consA (c (.int 0)) (consA (c (.int 0)) nilA)))))
 (seqF (forF (it1 itQ (fzE (call D_held (consA (v 0) (consA (v 1) (consA (v 2) nilA)))))) (sT 3 (sCons (sN 8) (sCons (sN 9) (sCons (sN 10) sNil))))
 B_pieces_2)
 (fgF 8 (fgF 9 (fgF 10 (seqF (drpX (callG [true, false, false, false] (nxG D_add_stretch) (lendX 4 (hereP 4) (consX (xF (sli (v 0) (part (v 5)) noP)) (consX (xF (sli (v 1) (part (v 6)) noP)) (consX (xF (sli (v 2) (part (v 7)) noP)) nilX))))))
 (retM 4))))))))))
noncomputable def D_pieces : List D → Res OT := run 3 11 B_pieces
noncomputable def B__law_cell_at : En → Flw := (seqF (ifF (tst (op2 ltD (v 1) (cal lenL (consA (v 0) nilA))))
 (ret (op2 ixD (v 0) (v 1)))
 .nx)
 (ret (c (.int 0))))
noncomputable def D__law_cell_at : List D → Res OT := run 2 2 B__law_cell_at
noncomputable def B__law_next : En → Flw := (seqF (asg 0 (op2 modD (op2 addD (v 0) (c (.int 7919))) (c (.int 2147483647))))
 (ret (op2 modD (op2 addD (op2 addD (op2 mulD (v 0) (v 0)) (op2 mulD (c (.int 48271)) (v 0))) (c (.int 12345))) (c (.int 2147483629)))))
noncomputable def D__law_next : List D → Res OT := run 1 1 B__law_next
noncomputable def B__law_row_1 : En → Flw := (seqF (app 2 (op2 ixD (c (.str ("abc" : Str))) (op2 modD (v 0) (c (.int 3)))))
 (seqF (asg 0 (op2 fdivD (v 0) (c (.int 3))))
 (fgF 4 .nx)))
noncomputable def B__law_row : En → Flw := (seqF (asgO 2 (cal mkO nilA))
 (seqF (asg 3 (op2 modD (v 0) (op2 addD (v 1) (c (.int 1)))))
 (seqF (asg 0 (op2 fdivD (v 0) (op2 addD (v 1) (c (.int 1)))))
 (seqF (forF (itA rg1 (consA (v 3) nilA)) (sN 4)
 B__law_row_1)
 (fgF 0 (fgF 4 (retM 2)))))))
noncomputable def D__law_row : List D → Res OT := run 2 5 B__law_row
noncomputable def B__law_changed_1 : En → Flw := (seqF (asg 5 (fzE (call (nx0 D__law_next) (consA (op2 addD (fzE (call (nx0 D__law_next) (consA (op2 addD (op2 modD (v 1) (c (.int 1000003))) (op2 mulD (c (.int 31)) (v 4))) nilA))) (c (.int 7))) nilA))))
 (seqF (asg 6 (op2 modD (op2 fdivD (v 5) (c (.int 7))) (op2 addD (cal lenL (consA (v 3) nilA)) (c (.int 1)))))
 (seqF (asg 7 (op2 modD (op2 fdivD (v 5) (c (.int 7000))) (c (.int 3))))
 (seqF (ifF (tst (op2 eqD (v 7) (c (.int 0))))
 (asg 3 (op2 addD (op2 addD (sli (v 3) noP (part (v 6))) (cal mkL (consA (op2 ixD (c (.str ("abc" : Str))) (op2 modD (op2 fdivD (v 5) (c (.int 700))) (c (.int 3)))) nilA))) (sli (v 3) (part (v 6)) noP)))
 .nx)
 (seqF (ifF (tst (op2 eqD (v 7) (c (.int 1))))
 (asg 3 (op2 addD (sli (v 3) noP (part (v 6))) (sli (v 3) (part (op2 addD (v 6) (c (.int 1)))) noP)))
 .nx)
 (seqF (ifF (tst (op2 eqD (v 7) (c (.int 2))))
 (asg 3 (op2 addD (op2 addD (sli (v 3) noP (part (v 6))) (cal mkL (consA (op2 ixD (c (.str ("abc" : Str))) (op2 modD (op2 fdivD (v 5) (c (.int 700))) (c (.int 3)))) nilA))) (sli (v 3) (part (op2 addD (v 6) (c (.int 1)))) noP)))
 .nx)
 (fgF 6 (fgF 4 (fgF 5 (fgF 7 .nx))))))))))
noncomputable def B__law_changed : En → Flw := (seqF (asg 3 (fzE (cal listO (consA (v 0) nilA))))
 (seqF (forF (itA rg1 (consA (op2 modD (v 1) (c (.int 4))) nilA)) (sN 4)
 B__law_changed_1)
 (fgF 6 (fgF 4 (fgF 5 (fgF 7 (ret (sli (v 3) noP (part (v 2))))))))))
noncomputable def D__law_changed : List D → Res OT := run 3 8 B__law_changed
noncomputable def B__law_three_1 : En → Flw := (seqF (asg 6 (fzE (call (nx0 D__law_cell_at) (consA (v 0) (consA (op2 addD (v 1) (v 5)) nilA)))))
 (seqF (ifF (tst (op2 eqD (op2 modD (fzE (call (nx0 D__law_cell_at) (consA (v 0) (consA (op2 addD (v 1) (c (.int 3))) nilA)))) (c (.int 2))) (c (.int 0))))
 (app 4 (fzE (call (nx0 D__law_row) (consA (v 6) (consA (v 2) nilA)))))
 (app 4 (fzE (call (nx0 D__law_changed) (consA (v 3) (consA (v 6) (consA (v 2) nilA)))))))
 (fgF 6 (fgF 5 .nx))))
noncomputable def B__law_three : En → Flw := (seqF (asg 3 (fzE (call (nx0 D__law_row) (consA (fzE (call (nx0 D__law_cell_at) (consA (v 0) (consA (v 1) nilA)))) (consA (v 2) nilA)))))
 (seqF (asgO 4 (cal mkO (consA (v 3) nilA)))
 (seqF (forF (itA rg2 (consA (c (.int 1)) (consA (c (.int 3)) nilA))) (sN 5)
 B__law_three_1)
 (fgF 6 (fgF 5 (retM 4))))))
noncomputable def D__law_three : List D → Res OT := run 3 7 B__law_three
noncomputable def B__law_kind : Addr → Option Addr → Str → En → Flw := fun a qq xc => (seqF (asg 1 (cal mkL (consA (op1 (isXQ a qq (exS xc ("BadRow" : Str))) (v 0)) (consA (op1 (isXQ a qq (exS xc ("NoFit" : Str))) (v 0)) (consA (op1 (isXQ a qq (exS xc ("BadTree" : Str))) (v 0)) (consA (op1 (isXQ a qq (exS xc ("BadWeb" : Str))) (v 0)) nilA))))))
 (seqF (asg 1 (op2 addD (v 1) (cal mkL (consA (op1 (isXQ a qq (exS xc ("NoVersion" : Str))) (v 0)) (consA (op1 (isXQ a qq (exS xc ("Clash" : Str))) (v 0)) nilA)))))
 (seqF (ifF (orT (notT (tst (op1 (isXQ a qq true) (v 0)))) (orT (tst (op2 neD (met "list" cntL (v 1) (consA (c (.bl true)) nilA)) (c (.int 1)))) (tst (op1 (isXQ a qq (exS xc ("NoAsking" : Str))) (v 0)))))
 (ret (c (.str ("other" : Str))))
 .nx)
 (ret (op2 ixD (cal mkL (consA (c (.str ("row" : Str))) (consA (c (.str ("fit" : Str))) (consA (c (.str ("tree" : Str))) (consA (c (.str ("web" : Str))) (consA (c (.str ("version" : Str))) (consA (c (.str ("clash" : Str))) nilA))))))) (met "list" idxL (v 1) (consA (c (.bl true)) nilA)))))))
noncomputable def D__law_kind : Addr → Option Addr → Str → List D → Res OT := fun a qq xc => run 1 2 (B__law_kind a qq xc)
noncomputable def B__law_settled_1 : En → Flw := (seqF (asg 5 (op2 addD (v 5) (op2 ixD (v 6) (v 7))))
 (fgF 7 .nx))
noncomputable def B__law_settled_2 : En → Flw := (seqF (asg 5 (op2 ixD (v 4) (op1 negD (c (.int 1)))))
 (seqF (ifF (tst (op2 eqD (op2 ixD (v 4) (c (.int 0))) (c (.str ("clash" : Str)))))
 (seqF (asg 6 (fzE (disp (consP (c (.str ("old" : Str))) (op2 ixD (v 4) (c (.int 1))) (consP (c (.str ("one" : Str))) (op2 ixD (v 4) (c (.int 2))) (consP (c (.str ("other" : Str))) (op2 ixD (v 4) (c (.int 3))) nilP))))))
 (seqF (asg 5 (cal mkL nilA))
 (forX (mtoX "str" splO (mtT "list" 2 popAtG (hereP 2) (consX (xF (c (.int 0))) nilX)) (consA (c (.str (" " : Str))) nilA)) (sN 7)
 B__law_settled_1)))
 .nx)
 (fgF 6 (fgF 7 (fzF 3 (seqF (asgO 3 (op2O addO (v 3) (v 5)))
 (fgF 5 (fgF 4 (fgF 6 (fgF 7 .nx))))))))))
noncomputable def B__law_settled : En → Flw := (seqF (asgO 2 (cal listO (consA (v 1) nilA)))
 (seqF (asgO 3 (cal mkO nilA))
 (seqF (forF (it1 itQ (v 0)) (sN 4)
 B__law_settled_2)
 (fgF 5 (fgF 4 (fgF 6 (fgF 7 (retM 3))))))))
noncomputable def D__law_settled : List D → Res OT := run 2 8 B__law_settled
noncomputable def B__law_tried : En → Flw := (tryQ exT exS (seqF (ifF (tst (op1 FL.isN (v 1)))
 (retX (disX tupO (consX (xF (c (.str ("told" : Str)))) (consX (xO (call D_merged (consA (v 0) nilA))) nilX))))
 .nx)
 (retX (disX tupO (consX (xF (c (.str ("told" : Str)))) (consX (xO (call D_settled (consA (v 0) (consA (v 1) nilA)))) nilX)))))
 (⟨("PastError" : Str), some 2, fun a qq xc => (seqF (ifF (andT (tst (op2 eqD (fzE (call (nx0 (D__law_kind a qq xc)) (consA (v 2) nilA))) (c (.str ("clash" : Str))))) (tst (op2 neD (op1 (pthX a qq) (v 2)) (cal mkL nilA))))
 (retX (disX tupO (consX (xF (c (.str ("other" : Str)))) (consX (xF (c .non)) nilX))))
 .nx)
 (retX (disX tupO (consX (xF (fzE (call (nx0 (D__law_kind a qq xc)) (consA (v 2) nilA)))) (consX (xF (c .non)) nilX)))))⟩ :: []))
noncomputable def D__law_tried : List D → Res OT := run 2 3 B__law_tried
noncomputable def B__law_right_1 : En → Flw := (seqF (asgO 4 (call (nx0 D__law_tried) (consA (v 0) (consA (v 1) nilA))))
 (seqF (ifF (borT (orT (tst (op2 neD (op2 ixD (v 4) (c (.int 0))) (c (.str ("told" : Str))))) (orT (notT (tst (op1 (isiD "list") (op2 ixD (v 4) (c (.int 1)))))) (tst (op2 neD (op2 ixD (v 4) (c (.int 1))) (v 2))))))
 (ret (c (.bl false)))
 .nx)
 (seqF (mutF 4 appM (ixP 4 (hereP 4) (c (.int 1))) (consA (c (.str ("q" : Str))) nilA))
 (fgF 4 (fgF 3 .nx)))))
noncomputable def B__law_right : En → Flw := (seqF (ifF (tst (op1 FL.isN (v 2)))
 (ret (op2 eqD (op2 ixD (fzE (call (nx0 D__law_tried) (consA (v 0) (consA (v 1) nilA)))) (c (.int 0))) (op2 ixD (cal mkL (consA (c (.str ("fit" : Str))) (consA (c (.str ("clash" : Str))) nilA))) (cal int1 (consA (op1 FL.isN (v 1)) nilA)))))
 .nx)
 (seqF (forF (itA rg1 (consA (c (.int 2)) nilA)) (sN 3)
 B__law_right_1)
 (fgF 4 (fgF 3 (ret (c (.bl true)))))))
noncomputable def D__law_right : List D → Res OT := run 3 5 B__law_right
noncomputable def B_law : En → Flw := (seqF (asg 1 (fzE (call (nx0 D__law_three) (consA (v 0) (consA (c (.int 0)) (consA (c (.int 6)) nilA))))))
 (seqF (asg 2 (fzE (call D_pieces (consA (op2 ixD (v 1) (c (.int 0))) (consA (op2 ixD (v 1) (c (.int 1))) (consA (op2 ixD (v 1) (c (.int 2))) nilA))))))
 (seqF (asgO 3 (lcD [11] (it1 itQ (v 2)) (sN 11) yes (ofE (op2 addD (sli (v 11) noP (part (c (.int 1)))) (cal tupleD (consA (fzE (lcD [13] (it1 itQ (sli (v 11) (part (c (.int 1))) noP)) (sN 13) yes (cal listO (consA (v 13) nilA)))) nilA))))))
 (fzF 3 (seqF (asgO 4 (lcD [11] (it1 itQ (v 2)) (sN 11) (tst (op2 eqD (op2 ixD (v 11) (c (.int 0))) (c (.str ("clash" : Str))))) (ofE (v 11))))
 (fzF 4 (seqF (asg 5 (c .non))
 (seqF (ifF (tst (op2 eqD (cal lenL (consA (v 4) nilA)) (c (.int 0))))
 (asg 5 (fzE (call (nx0 D__law_settled) (consA (v 2) (consA (cal mkL nilA) nilA)))))
 .nx)
 (seqF (ifF (notT (tst (fzE (call (nx0 D__law_right) (consA (v 2) (consA (c .non) (consA (v 5) nilA)))))))
 (ret (c (.bl false)))
 .nx)
 (seqF (asg 6 (cal mkL (consA (c (.str ("old" : Str))) (consA (c (.str ("one" : Str))) (consA (c (.str ("other" : Str))) (consA (c (.str ("one other" : Str))) (consA (c (.str ("other one" : Str))) nilA)))))))
 (seqF (asgO 7 (lcD [12] (itA rg1 (consA (cal lenL (consA (v 4) nilA)) nilA)) (sN 12) yes (ofE (op2 ixD (v 6) (op2 modD (fzE (call (nx0 D__law_cell_at) (consA (v 0) (consA (op2 addD (c (.int 6)) (v 12)) nilA)))) (c (.int 5)))))))
 (seqF (asg 5 (fzE (borO (call (nx0 D__law_settled) (consA (v 2) (consA (v 7) nilA))))))
 (seqF (asg 8 (op2 modD (fzE (call (nx0 D__law_cell_at) (consA (v 0) (consA (c (.int 5)) nilA)))) (c (.int 4))))
 (seqF (ifF (tst (op2 eqD (v 8) (c (.int 1))))
 (fzF 7 (seqF (asgO 7 (pickO (disL (consO (op2O addO (v 7) (cal mkL (consA (c (.str ("one" : Str))) nilA))) (consO (op2O addO (sli (v 7) (part (c (.int 1))) noP) (sli (cal mkL (consA (c (.str ("both" : Str))) (consA (c (.str ("One" : Str))) (consA (c (.str ("" : Str))) (consA (c (.str ("one one" : Str))) (consA (c (.str ("other old" : Str))) nilA)))))) noP (part (c (.int 1))))) nilO))) (op2 modD (cal lenL (consA (v 7) nilA)) (c (.int 2)))))
 (asg 5 (c .non))))
 .nx)
 (seqF (ifF (borT (andT (tst (op2 eqD (v 8) (c (.int 3)))) (tst (op2 gtD (cal lenL (consA (v 7) nilA)) (c (.int 0))))))
 (fzF 7 (seqF (asgO 7 (sliO (v 7) (part (c (.int 1))) noP))
 (asg 5 (c .non))))
 .nx)
 (seqF (ifF (borT (andT (tst (op2 eqD (v 8) (c (.int 2)))) (tst (op2 gtD (cal lenL (consA (v 7) nilA)) (c (.int 0))))))
 (seqF (asg 10 (bor (op2 modD (fzE (call (nx0 D__law_cell_at) (consA (v 0) (consA (c (.int 13)) nilA)))) (cal lenL (consA (v 7) nilA)))))
 (seqF (putS 7 (v 10) (op2 ixD (cal mkL (consA (c (.str ("both" : Str))) (consA (c (.str ("One" : Str))) (consA (c (.str ("" : Str))) (consA (c (.str ("one one" : Str))) (consA (c (.str ("old " : Str))) (consA (c (.str ("other old" : Str))) nilA))))))) (op2 modD (fzE (call (nx0 D__law_cell_at) (consA (v 0) (consA (c (.int 14)) nilA)))) (c (.int 6)))))
 (asg 5 (c .non))))
 .nx)
 (fgF 10 (fzF 7 (seqF (asg 9 (fzE (cal listO (consA (v 7) nilA))))
 (ret (andD (fzE (call (nx0 D__law_right) (consA (v 2) (consA (v 9) (consA (v 5) nilA))))) (andD (op2 eqD (v 9) (v 7)) (op2 eqD (v 2) (v 3))))))))))))))))))))))))
noncomputable def D_law : List D → Res OT := run 1 14 B_law
theorem s__law_cell_at (script_ : (List Int)) (k_ : Int) : Sm False (oD eI) (F__law_cell_at script_ k_) (D__law_cell_at [eC script_, eI k_]) := Sm.run (a := 2) (n := 2) (F := B__law_cell_at) (ds := [eC script_, eI k_]) (ρ := [some (.d (eC script_)), some (.d (eI k_))]) rfl rfl fun T hT =>
 (Tg.ite (tstE (op2E rfl (calP (cnsP rfl nilE) (lnC script_)) rfl))
 (Tg.nb (e := eI) (r1 := (op2 ixD (v 0) (v 1)) [some (.d (eC script_)), some (.d (eI k_))]) (Sm.op2 rfl rfl ixC) fun t_ h1 =>
 (Tg.sret h1 (hT.rt rfl)))
 (Tg.nil (Tg.one (Tg.sret rfl (hT.rt rfl)))))
theorem s__law_row (cell_ : Int) (most_ : Int) : Sm False (oL (oD eS)) (F__law_row cell_ most_) (D__law_row [eI cell_, eI most_]) := Sm.run (a := 2) (n := 5) (F := B__law_row) (ds := [eI cell_, eI most_]) (ρ := [some (.d (eI cell_)), some (.d (eI most_)), none, none, none]) rfl rfl fun T hT =>
 (Tg.asgO (e := (oL (oD eS))) (t := ([] : (List Str))) (calP nilE mkOP) fun row_ =>
 (Tg.nb (e := eI) (r1 := (op2 modD (v 0) (op2 addD (v 1) (c (.int 1)))) [some (.d (eI cell_)), some (.d (eI most_)), some ((oL (oD eS)) row_), none, none]) (Sm.op2 rfl (op2E rfl rfl rfl) moI) fun many_ h1 =>
 (Tg.asg1 h1 (Tg.nb (e := eI) (r1 := (op2 fdivD (v 0) (op2 addD (v 1) (c (.int 1)))) [some (.d (eI cell_)), some (.d (eI most_)), some ((oL (oD eS)) row_), some (.d (eI many_)), none]) (Sm.op2 rfl (op2E rfl rfl rfl) diI) fun cell_1 h2 =>
 (Tg.asg1 h2 (Tg.nb (e := (List.map eI)) (r1 := (itA rg1 (consA (v 3) nilA)) [some (.d (eI cell_1)), some (.d (eI most_)), some ((oL (oD eS)) row_), some (.d (eI many_)), none]) (Sm.itA (e := List.map eI) (cnsP rfl nilE) wr1) fun t_2 h3 =>
 (Tg.fo (N := (fun (s_ : (Int × (List Str))) (ρ : En) => ρ = [some (.d (eI s_.1)), some (.d (eI most_)), some ((oL (oD eS)) s_.2), some (.d (eI many_)), none])) (e := eI) h3 rfl (fun TT6 hT6 k_ s_ ρ hN => by
 obtain rfl := hN
 exact ⟨_, rfl, (Tg.nb (e := eS) (r1 := (op2 ixD (c (.str ("abc" : Str))) (op2 modD (v 0) (c (.int 3)))) [some (.d (eI s_.1)), some (.d (eI most_)), some ((oL (oD eS)) s_.2), some (.d (eI many_)), some (.d (eI k_))]) (Sm.op2 rfl (op2E rfl rfl (ev_mod (by decide))) ixS) fun t_3 h7 =>
 (Tg.app (e := eS) (x := t_3) rfl h7 fun row_1 =>
 (Tg.asg (e := eI) (t := (s_.1 / 3)) (op2E rfl rfl (ev_div (by decide))) fun cell_2 =>
 (Tg.fg (hT6.nx rfl)))))⟩) (fun s_1 ρ hN => by
 obtain rfl := hN
 exact (Tg.fg (Tg.fg (Tg.one (Tg.sretM (i := 2) rfl (hT.rt rfl)))))))))))))
theorem s__law_next (seed_ : Int) : Sm False (oD eI) (F__law_next seed_) (D__law_next [eI seed_]) := Sm.run (a := 1) (n := 1) (F := B__law_next) (ds := [eI seed_]) (ρ := [some (.d (eI seed_))]) rfl rfl fun T hT =>
 (Tg.asg (e := eI) (t := ((seed_ + 7919) % 2147483647)) (op2E (op2E rfl rfl rfl) rfl (ev_mod (by decide))) fun seed_1 =>
 (Tg.one (Tg.nb (e := eI) (r1 := (op2 mulD (v 0) (v 0)) [some (.d (eI seed_1))]) (Sm.op2 rfl rfl muI) fun t_ h1 =>
 (Tg.sret (op2E (op2E (op2E h1 (op2E rfl rfl (ev_mul (.inl (by decide)))) rfl) rfl rfl) rfl (ev_mod (by decide))) (hT.rt rfl)))))
theorem s__law_changed (row_ : (List Str)) (cell_ : Int) (most_ : Int) : Sm False (oD (eL eS)) (F__law_changed row_ cell_ most_) (D__law_changed [(eL eS) row_, eI cell_, eI most_]) := Sm.run (a := 3) (n := 8) (F := B__law_changed) (ds := [(eL eS) row_, eI cell_, eI most_]) (ρ := [some (.d ((eL eS) row_)), some (.d (eI cell_)), some (.d (eI most_)), none, none, none, none, none]) rfl rfl fun T hT =>
 (Tg.asg (e := (eL eS)) (t := row_) (fzP (zL zD) (calP (cnsP rfl nilE) (liL row_))) fun found_ =>
 (Tg.nb (e := (List.map eI)) (r1 := (itA rg1 (consA (op2 modD (v 1) (c (.int 4))) nilA)) [some (.d ((eL eS) row_)), some (.d (eI cell_)), some (.d (eI most_)), some (.d ((eL eS) found_)), none, none, none, none]) (Sm.itA (e := List.map eI) (cnsP (op2E rfl rfl (ev_mod (by decide))) nilE) wr1) fun t_ h1 =>
 (Tg.fo (N := (fun (found_1 : (List Str)) (ρ : En) => ρ = [some (.d ((eL eS) row_)), some (.d (eI cell_)), some (.d (eI most_)), some (.d ((eL eS) found_1)), none, none, none, none])) (e := eI) h1 rfl (fun TT22 hT22 k_ found_1 ρ hN => by
 obtain rfl := hN
 exact ⟨_, rfl, (Tg.nb (e := eI) (r1 := (fzE (call (nx0 D__law_next) (consA (op2 addD (op2 modD (v 1) (c (.int 1000003))) (op2 mulD (c (.int 31)) (v 4))) nilA))) [some (.d ((eL eS) row_)), some (.d (eI cell_)), some (.d (eI most_)), some (.d ((eL eS) found_1)), some (.d (eI k_)), none, none, none]) (Sm.fzE zD (Sm.call0 (cnsP (op2E (op2E rfl rfl (ev_mod (by decide))) (op2E rfl rfl (ev_mul (.inl (by decide)))) rfl) nilE) (s__law_next ((cell_ % 1000003) + (31 * k_))))) fun t_1 h23 =>
 (Tg.nb (e := eI) (r1 := (fzE (call (nx0 D__law_next) (consA (op2 addD (fzE (call (nx0 D__law_next) (consA (op2 addD (op2 modD (v 1) (c (.int 1000003))) (op2 mulD (c (.int 31)) (v 4))) nilA))) (c (.int 7))) nilA))) [some (.d ((eL eS) row_)), some (.d (eI cell_)), some (.d (eI most_)), some (.d ((eL eS) found_1)), some (.d (eI k_)), none, none, none]) (Sm.fzE zD (Sm.call0 (cnsP (op2E h23 rfl rfl) nilE) (s__law_next (t_1 + 7)))) fun seed_ h24 =>
 (Tg.asg1 h24 (Tg.nb (e := eI) (r1 := (op2 modD (op2 fdivD (v 5) (c (.int 7))) (op2 addD (cal lenL (consA (v 3) nilA)) (c (.int 1)))) [some (.d ((eL eS) row_)), some (.d (eI cell_)), some (.d (eI most_)), some (.d ((eL eS) found_1)), some (.d (eI k_)), some (.d (eI seed_)), none, none]) (Sm.op2 (op2E rfl rfl (ev_div (by decide))) (op2E (calP (cnsP rfl nilE) (lnL found_1)) rfl rfl) moI) fun at_ h25 =>
 (Tg.asg1 h25 (Tg.asg (e := eI) (t := ((seed_ / 7000) % 3)) (op2E (op2E rfl rfl (ev_div (by decide))) rfl (ev_mod (by decide))) fun way_ =>
 (Tg.jn (N := (fun (found_3 : (List Str)) (ρ : En) => ρ = [some (.d ((eL eS) row_)), some (.d (eI cell_)), some (.d (eI most_)), some (.d ((eL eS) found_3)), some (.d (eI k_)), some (.d (eI seed_)), some (.d (eI at_)), some (.d (eI way_))])) (fun TT29 hT29 => (Tg.ite1 (tstE (op2E rfl rfl (eqP EqnI way_ 0))) (Tg.one (Tg.nb (e := eS) (r1 := (op2 ixD (c (.str ("abc" : Str))) (op2 modD (op2 fdivD (v 5) (c (.int 700))) (c (.int 3)))) [some (.d ((eL eS) row_)), some (.d (eI cell_)), some (.d (eI most_)), some (.d ((eL eS) found_1)), some (.d (eI k_)), some (.d (eI seed_)), some (.d (eI at_)), some (.d (eI way_))]) (Sm.op2 rfl (op2E (op2E rfl rfl (ev_div (by decide))) rfl (ev_mod (by decide))) ixS) fun t_4 h30 =>
 (Tg.nb (e := (eL eS)) (r1 := (op2 addD (sli (v 3) noP (part (v 6))) (cal mkL (consA (op2 ixD (c (.str ("abc" : Str))) (op2 modD (op2 fdivD (v 5) (c (.int 700))) (c (.int 3)))) nilA))) [some (.d ((eL eS) row_)), some (.d (eI cell_)), some (.d (eI most_)), some (.d ((eL eS) found_1)), some (.d (eI k_)), some (.d (eI seed_)), some (.d (eI at_)), some (.d (eI way_))]) (Sm.op2 (x := (eL eS) (cutL found_1 none (some at_))) (y := (eL eS) [t_4]) (sliP rfl rfl (partP rfl) (slL found_1 _ _)) (calP (cnsP h30 nilE) mkLP) caL) fun t_5 h31 =>
 (Tg.nb (e := (eL eS)) (r1 := (op2 addD (op2 addD (sli (v 3) noP (part (v 6))) (cal mkL (consA (op2 ixD (c (.str ("abc" : Str))) (op2 modD (op2 fdivD (v 5) (c (.int 700))) (c (.int 3)))) nilA))) (sli (v 3) (part (v 6)) noP)) [some (.d ((eL eS) row_)), some (.d (eI cell_)), some (.d (eI most_)), some (.d ((eL eS) found_1)), some (.d (eI k_)), some (.d (eI seed_)), some (.d (eI at_)), some (.d (eI way_))]) (Sm.op2 (x := (eL eS) t_5) (y := (eL eS) (cutL found_1 (some at_) none)) h31 (sliP rfl (partP rfl) rfl (slL found_1 _ _)) caL) fun found_2 h32 =>
 (Tg.asg1 h32 (hT29.nx rfl)))))) (hT29.nx rfl))) fun found_3 ρ hN => by
 obtain rfl := hN
 exact (Tg.jn (N := (fun (found_5 : (List Str)) (ρ : En) => ρ = [some (.d ((eL eS) row_)), some (.d (eI cell_)), some (.d (eI most_)), some (.d ((eL eS) found_5)), some (.d (eI k_)), some (.d (eI seed_)), some (.d (eI at_)), some (.d (eI way_))])) (fun TT34 hT34 => (Tg.ite1 (tstE (op2E rfl rfl (eqP EqnI way_ 1))) (Tg.one (Tg.nb (e := (eL eS)) (r1 := (op2 addD (sli (v 3) noP (part (v 6))) (sli (v 3) (part (op2 addD (v 6) (c (.int 1)))) noP)) [some (.d ((eL eS) row_)), some (.d (eI cell_)), some (.d (eI most_)), some (.d ((eL eS) found_3)), some (.d (eI k_)), some (.d (eI seed_)), some (.d (eI at_)), some (.d (eI way_))]) (Sm.op2 (x := (eL eS) (cutL found_3 none (some at_))) (y := (eL eS) (cutL found_3 (some (at_ + 1)) none)) (sliP rfl rfl (partP rfl) (slL found_3 _ _)) (sliP rfl (partP (op2E rfl rfl rfl)) rfl (slL found_3 _ _)) caL) fun found_4 h35 =>
 (Tg.asg1 h35 (hT34.nx rfl)))) (hT34.nx rfl))) fun found_5 ρ hN => by
 obtain rfl := hN
 exact (Tg.jn (N := (fun (found_7 : (List Str)) (ρ : En) => ρ = [some (.d ((eL eS) row_)), some (.d (eI cell_)), some (.d (eI most_)), some (.d ((eL eS) found_7)), some (.d (eI k_)), some (.d (eI seed_)), some (.d (eI at_)), some (.d (eI way_))])) (fun TT39 hT39 => (Tg.ite1 (tstE (op2E rfl rfl (eqP EqnI way_ 2))) (Tg.one (Tg.nb (e := eS) (r1 := (op2 ixD (c (.str ("abc" : Str))) (op2 modD (op2 fdivD (v 5) (c (.int 700))) (c (.int 3)))) [some (.d ((eL eS) row_)), some (.d (eI cell_)), some (.d (eI most_)), some (.d ((eL eS) found_5)), some (.d (eI k_)), some (.d (eI seed_)), some (.d (eI at_)), some (.d (eI way_))]) (Sm.op2 rfl (op2E (op2E rfl rfl (ev_div (by decide))) rfl (ev_mod (by decide))) ixS) fun t_8 h40 =>
 (Tg.nb (e := (eL eS)) (r1 := (op2 addD (sli (v 3) noP (part (v 6))) (cal mkL (consA (op2 ixD (c (.str ("abc" : Str))) (op2 modD (op2 fdivD (v 5) (c (.int 700))) (c (.int 3)))) nilA))) [some (.d ((eL eS) row_)), some (.d (eI cell_)), some (.d (eI most_)), some (.d ((eL eS) found_5)), some (.d (eI k_)), some (.d (eI seed_)), some (.d (eI at_)), some (.d (eI way_))]) (Sm.op2 (x := (eL eS) (cutL found_5 none (some at_))) (y := (eL eS) [t_8]) (sliP rfl rfl (partP rfl) (slL found_5 _ _)) (calP (cnsP h40 nilE) mkLP) caL) fun t_9 h41 =>
 (Tg.nb (e := (eL eS)) (r1 := (op2 addD (op2 addD (sli (v 3) noP (part (v 6))) (cal mkL (consA (op2 ixD (c (.str ("abc" : Str))) (op2 modD (op2 fdivD (v 5) (c (.int 700))) (c (.int 3)))) nilA))) (sli (v 3) (part (op2 addD (v 6) (c (.int 1)))) noP)) [some (.d ((eL eS) row_)), some (.d (eI cell_)), some (.d (eI most_)), some (.d ((eL eS) found_5)), some (.d (eI k_)), some (.d (eI seed_)), some (.d (eI at_)), some (.d (eI way_))]) (Sm.op2 (x := (eL eS) t_9) (y := (eL eS) (cutL found_5 (some (at_ + 1)) none)) h41 (sliP rfl (partP (op2E rfl rfl rfl)) rfl (slL found_5 _ _)) caL) fun found_6 h42 =>
 (Tg.asg1 h42 (hT39.nx rfl)))))) (hT39.nx rfl))) fun found_7 ρ hN => by
 obtain rfl := hN
 exact (Tg.fg (Tg.fg (Tg.fg (Tg.fg (hT22.nx rfl))))))))))))))⟩) (fun found_8 ρ hN => by
 obtain rfl := hN
 exact (Tg.fg (Tg.fg (Tg.fg (Tg.fg (Tg.one (Tg.sret (sliP rfl rfl (partP rfl) (slL found_8 _ _)) (hT.rt rfl)))))))))))
theorem s__law_three (script_ : (List Int)) (at_ : Int) (most_ : Int) : Sm False (oL (oD (eL eS))) (F__law_three script_ at_ most_) (D__law_three [eC script_, eI at_, eI most_]) := Sm.run (a := 3) (n := 7) (F := B__law_three) (ds := [eC script_, eI at_, eI most_]) (ρ := [some (.d (eC script_)), some (.d (eI at_)), some (.d (eI most_)), none, none, none, none]) rfl rfl fun T hT =>
 (Tg.nb (e := eI) (r1 := (fzE (call (nx0 D__law_cell_at) (consA (v 0) (consA (v 1) nilA)))) [some (.d (eC script_)), some (.d (eI at_)), some (.d (eI most_)), none, none, none, none]) (Sm.fzE zD (Sm.call0 (cnsP rfl (cnsP rfl nilE)) (s__law_cell_at script_ at_))) fun t_ h1 =>
 (Tg.nb (e := (eL eS)) (r1 := (fzE (call (nx0 D__law_row) (consA (fzE (call (nx0 D__law_cell_at) (consA (v 0) (consA (v 1) nilA)))) (consA (v 2) nilA)))) [some (.d (eC script_)), some (.d (eI at_)), some (.d (eI most_)), none, none, none, none]) (Sm.fzE (zL zD) (Sm.call0 (cnsP h1 (cnsP rfl nilE)) (s__law_row t_ most_))) fun base_ h2 =>
 (Tg.asg1 h2 (Tg.asgO (e := (oL (oD (eL eS)))) (t := [base_]) (calP (cnsP rfl nilE) mkOP) fun rows_ =>
 (Tg.nb (e := (List.map eI)) (r1 := (itA rg2 (consA (c (.int 1)) (consA (c (.int 3)) nilA))) [some (.d (eC script_)), some (.d (eI at_)), some (.d (eI most_)), some (.d ((eL eS) base_)), some ((oL (oD (eL eS))) rows_), none, none]) (Sm.itA (e := List.map eI) (cnsP rfl (cnsP rfl nilE)) wr2) fun t_2 h3 =>
 (Tg.fo (N := (fun (rows_1 : (List (List Str))) (ρ : En) => ρ = [some (.d (eC script_)), some (.d (eI at_)), some (.d (eI most_)), some (.d ((eL eS) base_)), some ((oL (oD (eL eS))) rows_1), none, none])) (e := eI) h3 rfl (fun TT11 hT11 k_ rows_1 ρ hN => by
 obtain rfl := hN
 exact ⟨_, rfl, (Tg.nb (e := eI) (r1 := (fzE (call (nx0 D__law_cell_at) (consA (v 0) (consA (op2 addD (v 1) (v 5)) nilA)))) [some (.d (eC script_)), some (.d (eI at_)), some (.d (eI most_)), some (.d ((eL eS) base_)), some ((oL (oD (eL eS))) rows_1), some (.d (eI k_)), none]) (Sm.fzE zD (Sm.call0 (cnsP rfl (cnsP (op2E rfl rfl rfl) nilE)) (s__law_cell_at script_ (at_ + k_)))) fun cell_ h12 =>
 (Tg.asg1 h12 (Tg.nb (e := eI) (r1 := (fzE (call (nx0 D__law_cell_at) (consA (v 0) (consA (op2 addD (v 1) (c (.int 3))) nilA)))) [some (.d (eC script_)), some (.d (eI at_)), some (.d (eI most_)), some (.d ((eL eS) base_)), some ((oL (oD (eL eS))) rows_1), some (.d (eI k_)), some (.d (eI cell_))]) (Sm.fzE zD (Sm.call0 (cnsP rfl (cnsP (op2E rfl rfl rfl) nilE)) (s__law_cell_at script_ (at_ + 3)))) fun t_4 h13 =>
 (Tg.jn (N := (fun (rows_4 : (List (List Str))) (ρ : En) => ρ = [some (.d (eC script_)), some (.d (eI at_)), some (.d (eI most_)), some (.d ((eL eS) base_)), some ((oL (oD (eL eS))) rows_4), some (.d (eI k_)), some (.d (eI cell_))])) (fun TT16 hT16 => (Tg.ite1 (tstE (op2E (op2E h13 rfl (ev_mod (by decide))) rfl (eqP EqnI (t_4 % 2) 0))) (Tg.one (Tg.nb (e := (eL eS)) (r1 := (fzE (call (nx0 D__law_row) (consA (v 6) (consA (v 2) nilA)))) [some (.d (eC script_)), some (.d (eI at_)), some (.d (eI most_)), some (.d ((eL eS) base_)), some ((oL (oD (eL eS))) rows_1), some (.d (eI k_)), some (.d (eI cell_))]) (Sm.fzE (zL zD) (Sm.call0 (cnsP rfl (cnsP rfl nilE)) (s__law_row cell_ most_))) fun t_5 h17 =>
 (Tg.app (e := (eL eS)) (x := t_5) rfl h17 fun rows_2 =>
 (hT16.nx rfl)))) (Tg.one (Tg.nb (e := (eL eS)) (r1 := (fzE (call (nx0 D__law_changed) (consA (v 3) (consA (v 6) (consA (v 2) nilA))))) [some (.d (eC script_)), some (.d (eI at_)), some (.d (eI most_)), some (.d ((eL eS) base_)), some ((oL (oD (eL eS))) rows_1), some (.d (eI k_)), some (.d (eI cell_))]) (Sm.fzE zD (Sm.call0 (cnsP rfl (cnsP rfl (cnsP rfl nilE))) (s__law_changed base_ cell_ most_))) fun t_6 h18 =>
 (Tg.app (e := (eL eS)) (x := t_6) rfl h18 fun rows_3 =>
 (hT16.nx rfl)))))) fun rows_4 ρ hN => by
 obtain rfl := hN
 exact (Tg.fg (Tg.fg (hT11.nx rfl)))))))⟩) (fun rows_5 ρ hN => by
 obtain rfl := hN
 exact (Tg.fg (Tg.fg (Tg.one (Tg.sretM (i := 4) rfl (hT.rt rfl))))))))))))
theorem s_is_line (line_ : Str) : Sm False (oD eB) (F_is_line line_) (D_is_line [eS line_]) := Sm.run (a := 1) (n := 2) (F := B_is_line) (ds := [eS line_]) (ρ := [some (.d (eS line_)), none]) rfl rfl fun T hT =>
 (Tg.one (Tg.sret (andP (op2E (calP (cnsP rfl nilE) (lnS line_)) rfl rfl) (calP (cnsP (fzP (zL zD) (compY (e := eG) (eo := (oD eB)) (fun (sign_ : Nat) => (decide (sign_ ∈ ("abcdefghijklmnopqrstuvwxyz" : Str).cps.toList))) (it1E rfl (wkS line_)) fun sign_ => ⟨_, rfl, (ofP (op2E rfl rfl (inG sign_ ("abcdefghijklmnopqrstuvwxyz" : Str))))⟩)) nilE) (alP (line_.cps.toList.map fun (sign_ : Nat) => (decide (sign_ ∈ ("abcdefghijklmnopqrstuvwxyz" : Str).cps.toList)))))) (hT.rt rfl)))
theorem s_is_row (row_ : (List Str)) : Sm False (oD eB) (F_is_row row_) (D_is_row [(eL eS) row_]) := Sm.run (a := 1) (n := 2) (F := B_is_row) (ds := [(eL eS) row_]) (ρ := [some (.d ((eL eS) row_)), none]) rfl rfl fun T hT =>
 (Tg.one (Tg.nb (e := eB) (r1 := (andD (op2 leD (cal lenL (consA (v 0) nilA)) (c (.int 40))) (cal allD (consA (fzE (lcD [1] (it1 itQ (v 0)) (sN 1) yes (call (nx0 D_is_line) (consA (v 1) nilA)))) nilA))) [some (.d ((eL eS) row_)), none]) (Sm.and (op2E (calP (cnsP rfl nilE) (lnL row_)) rfl rfl) (Sm.nb (e1 := (oL (oD eB))) (r1 := (lcD [1] (it1 itQ (v 0)) (sN 1) yes (call (nx0 D_is_line) (consA (v 1) nilA))) [some (.d ((eL eS) row_)), none]) (Sm.comp (e := eS) (eo := (oD eB)) (it1E rfl (wkL row_)) fun line_ => ⟨_, rfl, (Sm.p rfl), (Sm.nb (e1 := (oD eB)) (r1 := (call (nx0 D_is_line) (consA (v 1) nilA)) [some (.d ((eL eS) row_)), some (.d (eS line_))]) (Sm.call0 (cnsP rfl nilE) (s_is_line line_)) fun t_ h1 => (Sm.p h1))⟩) fun t_1 h2 => (Sm.p (calP (cnsP (fzP (zL zD) h2) nilE) (alP t_1))))) fun t_2 h3 =>
 (Tg.sret h3 (hT.rt rfl))))
theorem s_check_row (row_ : (List Str)) : Sm True (oD eN) (F_check_row row_) (D_check_row [(eL eS) row_]) := Sm.run (a := 1) (n := 1) (F := B_check_row) (ds := [(eL eS) row_]) (ρ := [some (.d ((eL eS) row_))]) rfl rfl fun T hT =>
 (Tg.one (Tg.nb (e := eB) (r1 := (fzE (call (nx0 D_is_row) (consA (v 0) nilA))) [some (.d ((eL eS) row_))]) (Sm.fzE zD (Sm.call0 (cnsP rfl nilE) (s_is_row row_))) fun t_ h1 =>
 (Tg.ite (notT_ok (tstE h1))
 (Tg.sra (hT.X _))
 (Tg.nil (hT.nx rfl)))))
theorem s_check_two (old_ : (List Str)) (new_ : (List Str)) : Sm True (oD eN) (F_check_two old_ new_) (D_check_two [(eL eS) old_, (eL eS) new_]) := Sm.run (a := 2) (n := 2) (F := B_check_two) (ds := [(eL eS) old_, (eL eS) new_]) (ρ := [some (.d ((eL eS) old_)), some (.d ((eL eS) new_))]) rfl rfl fun T hT =>
 (Tg.drpS (e := eN) (id (Sm.fzE zD (Sm.call (cnsP rfl nilE) (s_check_row old_)))) (hT.X _) (Tg.one (Tg.drpS (e := eN) (id (Sm.fzE zD (Sm.call (cnsP rfl nilE) (s_check_row new_)))) (hT.X _) (hT.nx rfl))))
theorem s_most_kept (old_ : (List Str)) (new_ : (List Str)) : Sm False (oL (oL (oD eI))) (F_most_kept old_ new_) (D_most_kept [(eL eS) old_, (eL eS) new_]) := Sm.run (a := 2) (n := 7) (F := B_most_kept) (ds := [(eL eS) old_, (eL eS) new_]) (ρ := [some (.d ((eL eS) old_)), some (.d ((eL eS) new_)), none, none, none, none, none]) rfl rfl fun T hT =>
 (Tg.nb (e := (List.map eI)) (r1 := (itA rg1 (consA (op2 addD (cal lenL (consA (v 0) nilA)) (c (.int 1))) nilA)) [some (.d ((eL eS) old_)), some (.d ((eL eS) new_)), none, none, none, none, none]) (Sm.itA (e := List.map eI) (cnsP (op2E (calP (cnsP rfl nilE) (lnL old_)) rfl rfl) nilE) wr1) fun t_ h1 =>
 (Tg.nb (e := (oL (oL (oD eI)))) (r1 := (lcD [5] (itA rg1 (consA (op2 addD (cal lenL (consA (v 0) nilA)) (c (.int 1))) nilA)) (sN 5) yes (lcD [6] (itA rg1 (consA (op2 addD (cal lenL (consA (v 1) nilA)) (c (.int 1))) nilA)) (sN 6) yes (ofE (c (.int 0))))) [some (.d ((eL eS) old_)), some (.d ((eL eS) new_)), none, none, none, none, none]) (Sm.comp (e := eI) (eo := (oL (oD eI))) h1 fun line_ => ⟨_, rfl, (Sm.p rfl), (Sm.nb (e1 := (List.map eI)) (r1 := (itA rg1 (consA (op2 addD (cal lenL (consA (v 1) nilA)) (c (.int 1))) nilA)) [some (.d ((eL eS) old_)), some (.d ((eL eS) new_)), none, none, none, some (.d (eI line_)), none]) (Sm.itA (e := List.map eI) (cnsP (op2E (calP (cnsP rfl nilE) (lnL new_)) rfl rfl) nilE) wr1) fun t_1 h2 => (Sm.p (compY (e := eI) (eo := (oD eI)) (fun (place_ : Int) => 0) h2 fun place_ => ⟨_, rfl, (ofP rfl)⟩)))⟩) fun table_ h3 =>
 (Tg.asgO1 h3 (Tg.nb (e := (List.map eI)) (r1 := (itA rg3 (consA (op2 subD (cal lenL (consA (v 0) nilA)) (c (.int 1))) (consA (op1 negD (c (.int 1))) (consA (op1 negD (c (.int 1))) nilA)))) [some (.d ((eL eS) old_)), some (.d ((eL eS) new_)), some ((oL (oL (oD eI))) table_), none, none, none, none]) (Sm.itA (e := List.map eI) (cnsP (op2E (calP (cnsP rfl nilE) (lnL old_)) rfl rfl) (cnsP (op1E rfl rfl) (cnsP (op1E rfl rfl) nilE))) wr3) fun t_3 h4 =>
 (Tg.fo (N := (fun (table_1 : (List (List Int))) (ρ : En) => ρ = [some (.d ((eL eS) old_)), some (.d ((eL eS) new_)), some ((oL (oL (oD eI))) table_1), none, none, none, none])) (e := eI) h4 rfl (fun TT25 hT25 i_ table_1 ρ hN => by
 obtain rfl := hN
 exact ⟨_, rfl, (Tg.nb (e := (List.map eI)) (r1 := (itA rg3 (consA (op2 subD (cal lenL (consA (v 1) nilA)) (c (.int 1))) (consA (op1 negD (c (.int 1))) (consA (op1 negD (c (.int 1))) nilA)))) [some (.d ((eL eS) old_)), some (.d ((eL eS) new_)), some ((oL (oL (oD eI))) table_1), some (.d (eI i_)), none, none, none]) (Sm.itA (e := List.map eI) (cnsP (op2E (calP (cnsP rfl nilE) (lnL new_)) rfl rfl) (cnsP (op1E rfl rfl) (cnsP (op1E rfl rfl) nilE))) wr3) fun t_4 h26 =>
 (Tg.fo (N := (fun (table_2 : (List (List Int))) (ρ : En) => ρ = [some (.d ((eL eS) old_)), some (.d ((eL eS) new_)), some ((oL (oL (oD eI))) table_2), some (.d (eI i_)), none, none, none])) (e := eI) h26 rfl (fun TT36 hT36 j_ table_2 ρ hN => by
 obtain rfl := hN
 exact ⟨_, rfl, (Tg.nb (e := eI) (r1 := (oix2 2 (op2 addD (v 3) (c (.int 1))) (v 4)) [some (.d ((eL eS) old_)), some (.d ((eL eS) new_)), some ((oL (oL (oD eI))) table_2), some (.d (eI i_)), some (.d (eI j_)), none, none]) (oix2P (l := table_2) rfl (op2E rfl rfl rfl) rfl) fun t_5 h37 =>
 (Tg.nb (e := eI) (r1 := (oix2 2 (v 3) (op2 addD (v 4) (c (.int 1)))) [some (.d ((eL eS) old_)), some (.d ((eL eS) new_)), some ((oL (oL (oD eI))) table_2), some (.d (eI i_)), some (.d (eI j_)), none, none]) (oix2P (l := table_2) rfl rfl (op2E rfl rfl rfl)) fun t_6 h38 =>
 (Tg.setLL (e := eI) (x := (max t_5 t_6)) rfl (calP (cnsP h37 (cnsP h38 nilE)) (mxP t_5 t_6)) rfl rfl fun table_3 =>
 (Tg.nb (e := eS) (r1 := (op2 ixD (v 0) (v 3)) [some (.d ((eL eS) old_)), some (.d ((eL eS) new_)), some ((oL (oL (oD eI))) table_3), some (.d (eI i_)), some (.d (eI j_)), none, none]) (Sm.op2 rfl rfl ixL) fun t_7 h39 =>
 (Tg.nb (e := eS) (r1 := (op2 ixD (v 1) (v 4)) [some (.d ((eL eS) old_)), some (.d ((eL eS) new_)), some ((oL (oL (oD eI))) table_3), some (.d (eI i_)), some (.d (eI j_)), none, none]) (Sm.op2 rfl rfl ixL) fun t_8 h40 =>
 (Tg.jn (N := (fun (table_5 : (List (List Int))) (ρ : En) => ρ = [some (.d ((eL eS) old_)), some (.d ((eL eS) new_)), some ((oL (oL (oD eI))) table_5), some (.d (eI i_)), some (.d (eI j_)), none, none])) (fun TT43 hT43 => (Tg.ite1 (tstE (op2E h39 h40 (eqP EqnS t_7 t_8))) (Tg.one (Tg.nb (e := eI) (r1 := (oix2 2 (v 3) (v 4)) [some (.d ((eL eS) old_)), some (.d ((eL eS) new_)), some ((oL (oL (oD eI))) table_3), some (.d (eI i_)), some (.d (eI j_)), none, none]) (oix2P (l := table_3) rfl rfl rfl) fun t_9 h44 =>
 (Tg.nb (e := eI) (r1 := (oix2 2 (op2 addD (v 3) (c (.int 1))) (op2 addD (v 4) (c (.int 1)))) [some (.d ((eL eS) old_)), some (.d ((eL eS) new_)), some ((oL (oL (oD eI))) table_3), some (.d (eI i_)), some (.d (eI j_)), none, none]) (oix2P (l := table_3) rfl (op2E rfl rfl rfl) (op2E rfl rfl rfl)) fun t_10 h45 =>
 (Tg.setLL (e := eI) (x := (max t_9 (t_10 + 1))) rfl (calP (cnsP h44 (cnsP (op2E h45 rfl rfl) nilE)) (mxP t_9 (t_10 + 1))) rfl rfl fun table_4 =>
 (hT43.nx rfl))))) (hT43.nx rfl))) fun table_5 ρ hN => by
 obtain rfl := hN
 exact (Tg.fg (hT36.nx rfl))))))))⟩) (fun table_6 ρ hN => by
 obtain rfl := hN
 exact (Tg.fg (Tg.fg (hT25.nx rfl))))))⟩) (fun table_7 ρ hN => by
 obtain rfl := hN
 exact (Tg.fg (Tg.fg (Tg.one (Tg.sretM (i := 2) rfl (hT.rt rfl)))))))))))
theorem s_first_pair (old_ : (List Str)) (new_ : (List Str)) (table_ : (List (List Int))) (i_ : Int) (j_ : Int) : Sm False (oD (eO (eT2 eI eI))) (F_first_pair old_ new_ table_ i_ j_) (D_first_pair [(eL eS) old_, (eL eS) new_, (eL (eL eI)) table_, eI i_, eI j_]) := Sm.run (a := 5) (n := 7) (F := B_first_pair) (ds := [(eL eS) old_, (eL eS) new_, (eL (eL eI)) table_, eI i_, eI j_]) (ρ := [some (.d ((eL eS) old_)), some (.d ((eL eS) new_)), some (.d ((eL (eL eI)) table_)), some (.d (eI i_)), some (.d (eI j_)), none, none]) rfl rfl fun T hT =>
 (Tg.nb (e := (List.map eI)) (r1 := (itA rg2 (consA (v 3) (consA (cal lenL (consA (v 0) nilA)) nilA))) [some (.d ((eL eS) old_)), some (.d ((eL eS) new_)), some (.d ((eL (eL eI)) table_)), some (.d (eI i_)), some (.d (eI j_)), none, none]) (Sm.itA (e := List.map eI) (cnsP rfl (cnsP (calP (cnsP rfl nilE) (lnL old_)) nilE)) wr2) fun t_ h1 =>
 (Tg.lp (N := (fun (s_ : Unit) (ρ : En) => ρ = [some (.d ((eL eS) old_)), some (.d ((eL eS) new_)), some (.d ((eL (eL eI)) table_)), some (.d (eI i_)), some (.d (eI j_)), none, none])) (er := (fun r o _ => o = (oD (eO (eT2 eI eI))) r)) (e := eI) h1 rfl (fun TT18 hT18 one_ s_ ρ hN => by
 obtain rfl := hN
 exact ⟨_, rfl, (Tg.nb (e := (List.map eI)) (r1 := (itA rg2 (consA (v 4) (consA (cal lenL (consA (v 1) nilA)) nilA))) [some (.d ((eL eS) old_)), some (.d ((eL eS) new_)), some (.d ((eL (eL eI)) table_)), some (.d (eI i_)), some (.d (eI j_)), some (.d (eI one_)), none]) (Sm.itA (e := List.map eI) (cnsP rfl (cnsP (calP (cnsP rfl nilE) (lnL new_)) nilE)) wr2) fun t_1 h19 =>
 (Tg.lp (N := (fun (s_1 : Unit) (ρ : En) => ρ = [some (.d ((eL eS) old_)), some (.d ((eL eS) new_)), some (.d ((eL (eL eI)) table_)), some (.d (eI i_)), some (.d (eI j_)), some (.d (eI one_)), none])) (er := (fun r o _ => o = (oD (eO (eT2 eI eI))) r)) (e := eI) h19 rfl (fun TT27 hT27 other_ s_1 ρ hN => by
 obtain rfl := hN
 exact ⟨_, rfl, (Tg.nb (e := eS) (r1 := (op2 ixD (v 0) (v 5)) [some (.d ((eL eS) old_)), some (.d ((eL eS) new_)), some (.d ((eL (eL eI)) table_)), some (.d (eI i_)), some (.d (eI j_)), some (.d (eI one_)), some (.d (eI other_))]) (Sm.op2 rfl rfl ixL) fun t_2 h28 =>
 (Tg.nb (e := eS) (r1 := (op2 ixD (v 1) (v 6)) [some (.d ((eL eS) old_)), some (.d ((eL eS) new_)), some (.d ((eL (eL eI)) table_)), some (.d (eI i_)), some (.d (eI j_)), some (.d (eI one_)), some (.d (eI other_))]) (Sm.op2 rfl rfl ixL) fun t_3 h29 =>
 (Tg.nb (e := id) (r1 := (andT (tst (op2 eqD (op2 ixD (v 0) (v 5)) (op2 ixD (v 1) (v 6)))) (tst (op2 eqD (op2 addD (op2 ixD (op2 ixD (v 2) (op2 addD (v 5) (c (.int 1)))) (op2 addD (v 6) (c (.int 1)))) (c (.int 1))) (op2 ixD (op2 ixD (v 2) (v 3)) (v 4))))) [some (.d ((eL eS) old_)), some (.d ((eL eS) new_)), some (.d ((eL (eL eI)) table_)), some (.d (eI i_)), some (.d (eI j_)), some (.d (eI one_)), some (.d (eI other_))]) (Sm.andT (tstE (op2E h28 h29 (eqP EqnS t_2 t_3))) (Sm.nb (e1 := (eL eI)) (r1 := (op2 ixD (v 2) (op2 addD (v 5) (c (.int 1)))) [some (.d ((eL eS) old_)), some (.d ((eL eS) new_)), some (.d ((eL (eL eI)) table_)), some (.d (eI i_)), some (.d (eI j_)), some (.d (eI one_)), some (.d (eI other_))]) (Sm.op2 rfl (op2E rfl rfl rfl) ixL) fun t_4 h30 => (Sm.nb (e1 := eI) (r1 := (op2 ixD (op2 ixD (v 2) (op2 addD (v 5) (c (.int 1)))) (op2 addD (v 6) (c (.int 1)))) [some (.d ((eL eS) old_)), some (.d ((eL eS) new_)), some (.d ((eL (eL eI)) table_)), some (.d (eI i_)), some (.d (eI j_)), some (.d (eI one_)), some (.d (eI other_))]) (Sm.op2 h30 (op2E rfl rfl rfl) ixL) fun t_5 h31 => (Sm.nb (e1 := (eL eI)) (r1 := (op2 ixD (v 2) (v 3)) [some (.d ((eL eS) old_)), some (.d ((eL eS) new_)), some (.d ((eL (eL eI)) table_)), some (.d (eI i_)), some (.d (eI j_)), some (.d (eI one_)), some (.d (eI other_))]) (Sm.op2 rfl rfl ixL) fun t_6 h32 => (Sm.nb (e1 := eI) (r1 := (op2 ixD (op2 ixD (v 2) (v 3)) (v 4)) [some (.d ((eL eS) old_)), some (.d ((eL eS) new_)), some (.d ((eL (eL eI)) table_)), some (.d (eI i_)), some (.d (eI j_)), some (.d (eI one_)), some (.d (eI other_))]) (Sm.op2 h32 rfl ixL) fun t_7 h33 => (Sm.p (tstE (op2E (op2E h31 rfl rfl) h33 (eqP EqnI (t_5 + 1) t_7))))))))) fun t_8 h34 =>
 (Tg.ite h34
 (Tg.sret (calP (cnsP rfl (cnsP rfl nilE)) mkTP) (hT27.rt rfl))
 (Tg.nil (Tg.fg (hT27.nx rfl)))))))⟩) (fun _ _ _ h => hT18.rt h) (fun s_2 ρ hN => by
 obtain rfl := hN
 exact (Tg.fg (Tg.fg (hT18.nx rfl))))))⟩) (fun _ _ _ h => hT.rt h) (fun s_3 ρ hN => by
 obtain rfl := hN
 exact (Tg.fg (Tg.fg (Tg.one (Tg.sret rfl (hT.rt rfl))))))))
theorem s_kept_by (old_ : (List Str)) (new_ : (List Str)) : Sm False (oL (oD (eT2 eI eI))) (F_kept_by old_ new_) (D_kept_by [(eL eS) old_, (eL eS) new_]) := Sm.run (a := 2) (n := 7) (F := B_kept_by) (ds := [(eL eS) old_, (eL eS) new_]) (ρ := [some (.d ((eL eS) old_)), some (.d ((eL eS) new_)), none, none, none, none, none]) rfl rfl fun T hT =>
 (Tg.nb (e := (eL (eL eI))) (r1 := (fzE (call (nx0 D_most_kept) (consA (v 0) (consA (v 1) nilA)))) [some (.d ((eL eS) old_)), some (.d ((eL eS) new_)), none, none, none, none, none]) (Sm.fzE (zL (zL zD)) (Sm.call0 (cnsP rfl (cnsP rfl nilE)) (s_most_kept old_ new_))) fun table_ h1 =>
 (Tg.asg1 h1 (Tg.asgO (e := (oL (oD (eT2 eI eI)))) (t := ([] : (List (Int × Int)))) (calP nilE mkOP) fun found_ =>
 (Tg.asg (e := eI) (t := 0) rfl fun i_ =>
 (Tg.asg (e := eI) (t := 0) rfl fun j_ =>
 (Tg.wh (N := (fun (s_ : ((List (Int × Int)) × Int × Int)) (ρ : En) => ρ = [some (.d ((eL eS) old_)), some (.d ((eL eS) new_)), some (.d ((eL (eL eI)) table_)), some ((oL (oD (eT2 eI eI))) s_.1), some (.d (eI s_.2.1)), some (.d (eI s_.2.2)), none])) (er := (fun r o _ => o = (oL (oD (eT2 eI eI))) r)) rfl (fun s_ ρ hN => by
 obtain rfl := hN
 exact (Sm.nb (e1 := (eL eI)) (r1 := (op2 ixD (v 2) (v 4)) [some (.d ((eL eS) old_)), some (.d ((eL eS) new_)), some (.d ((eL (eL eI)) table_)), some ((oL (oD (eT2 eI eI))) s_.1), some (.d (eI s_.2.1)), some (.d (eI s_.2.2)), none]) (Sm.op2 rfl rfl ixL) fun t_1 h11 => (Sm.nb (e1 := eI) (r1 := (op2 ixD (op2 ixD (v 2) (v 4)) (v 5)) [some (.d ((eL eS) old_)), some (.d ((eL eS) new_)), some (.d ((eL (eL eI)) table_)), some ((oL (oD (eT2 eI eI))) s_.1), some (.d (eI s_.2.1)), some (.d (eI s_.2.2)), none]) (Sm.op2 h11 rfl ixL) fun t_2 h12 => (Sm.p (tstE (op2E h12 rfl rfl)))))) (fun TT10 hT10 s_ ρ hN => by
 obtain rfl := hN
 exact (Tg.nb (e := (eO (eT2 eI eI))) (r1 := (fzE (call (nx0 D_first_pair) (consA (v 0) (consA (v 1) (consA (v 2) (consA (v 4) (consA (v 5) nilA))))))) [some (.d ((eL eS) old_)), some (.d ((eL eS) new_)), some (.d ((eL (eL eI)) table_)), some ((oL (oD (eT2 eI eI))) s_.1), some (.d (eI s_.2.1)), some (.d (eI s_.2.2)), none]) (Sm.fzE zD (Sm.call0 (cnsP rfl (cnsP rfl (cnsP rfl (cnsP rfl (cnsP rfl nilE))))) (s_first_pair old_ new_ table_ s_.2.1 s_.2.2))) fun t_3 h13 =>
 (Tg.nb (e := (eT2 eI eI)) (r1 := (fzE (call (nx0 D_first_pair) (consA (v 0) (consA (v 1) (consA (v 2) (consA (v 4) (consA (v 5) nilA))))))) [some (.d ((eL eS) old_)), some (.d ((eL eS) new_)), some (.d ((eL (eL eI)) table_)), some ((oL (oD (eT2 eI eI))) s_.1), some (.d (eI s_.2.1)), some (.d (eI s_.2.2)), none]) (Sm.get h13) fun pair_ h14 =>
 (Tg.asg1 h14 (Tg.app (e := (eT2 eI eI)) (x := pair_) rfl rfl fun found_1 =>
 (Tg.asg (e := eI) (t := (pair_.1 + 1)) (op2E (op2E rfl rfl rfl) rfl rfl) fun i_1 =>
 (Tg.asg (e := eI) (t := (pair_.2 + 1)) (op2E (op2E rfl rfl rfl) rfl rfl) fun j_1 =>
 (Tg.fg (hT10.nx rfl))))))))) (fun _ _ _ h => hT.rt h) (fun s_1 ρ hN => by
 obtain rfl := hN
 exact (Tg.fg (Tg.fg (Tg.fg (Tg.one (Tg.sretM (i := 3) rfl (hT.rt rfl)))))))))))))
theorem s_kept (old_ : (List Str)) (new_ : (List Str)) : Sm True (oL (oD (eT2 eI eI))) (F_kept old_ new_) (D_kept [(eL eS) old_, (eL eS) new_]) := Sm.run (a := 2) (n := 2) (F := B_kept) (ds := [(eL eS) old_, (eL eS) new_]) (ρ := [some (.d ((eL eS) old_)), some (.d ((eL eS) new_))]) rfl rfl fun T hT =>
 (Tg.drpS (e := eN) (id (Sm.fzE zD (Sm.call (cnsP rfl (cnsP rfl nilE)) (s_check_two old_ new_)))) (hT.X _) (Tg.one (Tg.nb (e := (oL (oD (eT2 eI eI)))) (r1 := (call (nx0 D_kept_by) (consA (v 0) (consA (v 1) nilA))) [some (.d ((eL eS) old_)), some (.d ((eL eS) new_))]) (Sm.call0 (cnsP rfl (cnsP rfl nilE)) (s_kept_by old_ new_)) fun t_1 h2 =>
 (Tg.sretO h2 (hT.rt rfl)))))
theorem s_held (base_ : (List Str)) (one_ : (List Str)) (other_ : (List Str)) : Sm True (oL (oD (eT3 eI eI eI))) (F_held base_ one_ other_) (D_held [(eL eS) base_, (eL eS) one_, (eL eS) other_]) := Sm.run (a := 3) (n := 6) (F := B_held) (ds := [(eL eS) base_, (eL eS) one_, (eL eS) other_]) (ρ := [some (.d ((eL eS) base_)), some (.d ((eL eS) one_)), some (.d ((eL eS) other_)), none, none, none]) rfl rfl fun T hT =>
 (Tg.nb (e := (eL (eT2 eI eI))) (r1 := (fzE (call D_kept (consA (v 0) (consA (v 2) nilA)))) [some (.d ((eL eS) base_)), some (.d ((eL eS) one_)), some (.d ((eL eS) other_)), none, none, none]) (Sm.weak (Sm.fzE (zL zD) (Sm.call (cnsP rfl (cnsP rfl nilE)) (s_kept base_ other_)))) fun t_ h1 =>
 (Tg.asg (e := (eKI eI)) (t := (dictA t_)) (fzP (zKI zD) (calP (cnsP h1 nilE) (dicI t_))) fun theirs_ =>
 (Tg.one (Tg.nb (e := (eL (eT2 eI eI))) (r1 := (fzE (call D_kept (consA (v 0) (consA (v 1) nilA)))) [some (.d ((eL eS) base_)), some (.d ((eL eS) one_)), some (.d ((eL eS) other_)), some (.d ((eKI eI) theirs_)), none, none]) (Sm.weak (Sm.fzE (zL zD) (Sm.call (cnsP rfl (cnsP rfl nilE)) (s_kept base_ one_)))) fun t_1 h2 =>
 (Tg.nb (e := (oL (oD (eT3 eI eI eI)))) (r1 := (lcD [4, 5] (it1 itQ (fzE (call D_kept (consA (v 0) (consA (v 1) nilA))))) (sT 2 (sCons (sN 4) (sCons (sN 5) sNil))) (tst (op2 inK (v 4) (v 3))) (ofE (cal mkT (consA (v 4) (consA (v 5) (consA (op2 ixD (v 3) (v 4)) nilA)))))) [some (.d ((eL eS) base_)), some (.d ((eL eS) one_)), some (.d ((eL eS) other_)), some (.d ((eKI eI) theirs_)), none, none]) (Sm.comp (e := (eT2 eI eI)) (eo := (oD (eT3 eI eI eI))) (it1E h2 (wkL t_1)) fun p_ => ⟨_, rfl, (Sm.p (tstE (op2E rfl rfl (inKI theirs_ p_.1)))), (Sm.nb (e1 := eI) (r1 := (op2 ixD (v 3) (v 4)) [some (.d ((eL eS) base_)), some (.d ((eL eS) one_)), some (.d ((eL eS) other_)), some (.d ((eKI eI) theirs_)), some (.d (eI p_.1)), some (.d (eI p_.2))]) (Sm.op2 (y := eI p_.1) rfl rfl ixKI) fun t_2 h3 => (Sm.p (ofP (calP (cnsP rfl (cnsP rfl (cnsP h3 nilE))) mkTP))))⟩) fun t_3 h4 =>
 (Tg.sretO h4 (hT.rt rfl)))))))
theorem s_add_same (found_ : (List (Str × List (List Str)))) (lines_ : (List Str)) : SmG False (fun (r : (Unit × (List (Str × List (List Str))))) => (oD eN) r.1) (fun (r : (Unit × (List (Str × List (List Str))))) => [(oL (oD (eW (eL eS)))) r.2]) [(oL (oD (eW (eL eS)))) found_] (F_add_same found_ lines_) (D_add_same [(oL (oD (eW (eL eS)))) found_, .d ((eL eS) lines_)]) := SmG.run (a := 2) (n := 2) (m := [true, false]) (ts := [(oL (oD (eW (eL eS)))) found_, .d ((eL eS) lines_)]) (ρ := [some ((oL (oD (eW (eL eS)))) found_), some (.d ((eL eS) lines_))]) (er := (fun (r : (Unit × (List (Str × List (List Str))))) o (ρ : En) => o = (oD eN) r.1 ∧ ρ[0]? = some (some ((oL (oD (eW (eL eS)))) r.2)))) rfl rfl rfl (fun r o ρ h => ⟨h.1, by simp only [outsG, h.2]; rfl⟩) fun T hT =>
 (Tg.ite (tstE (op2E (calP (cnsP rfl nilE) (lnL lines_)) rfl (eqP EqnI (lines_.length : Int) 0)))
 (Tg.sretN (hT.rt ⟨rfl, rfl⟩))
 (Tg.nil (Tg.nb (e := id) (r1 := (borT (andT (tst (op2 gtD (cal lenL (consA (v 0) nilA)) (c (.int 0)))) (tst (op2 eqD (op2 ixD (op2 ixD (v 0) (op1 negD (c (.int 1)))) (c (.int 0))) (c (.str ("same" : Str))))))) [some ((oL (oD (eW (eL eS)))) found_), some (.d ((eL eS) lines_))]) (borQ (frO ((zL zD) found_) (frD fr0)) (Sm.nb (e1 := id) (r1 := (andT (tst (op2 gtD (cal lenL (consA (v 0) nilA)) (c (.int 0)))) (tst (op2 eqD (op2 ixD (op2 ixD (v 0) (op1 negD (c (.int 1)))) (c (.int 0))) (c (.str ("same" : Str)))))) [some (.d ((eL (eW (eL eS))) found_)), some (.d ((eL eS) lines_))]) (Sm.andT (tstE (op2E (calP (cnsP rfl nilE) (lnL found_)) rfl rfl)) (Sm.nb (e1 := (eW (eL eS))) (r1 := (op2 ixD (v 0) (op1 negD (c (.int 1)))) [some (.d ((eL (eW (eL eS))) found_)), some (.d ((eL eS) lines_))]) (Sm.op2 rfl (op1E rfl rfl) ixL) fun t_ h1 => (Sm.p (tstE (op2E (op2E h1 rfl (ixW0 t_)) rfl (eqP EqnS t_.1 ("same" : Str))))))) fun t_1 h2 => (Sm.p h2))) fun t_2 h3 =>
 (Tg.jn (N := (fun (s_ : ((List (Str × List (List Str))) × (List Str))) (ρ : En) => ρ = [some ((oL (oD (eW (eL eS)))) s_.1), some (.d ((eL eS) s_.2))])) (fun TT7 hT7 => (Tg.ite1 h3 (Tg.one (Tg.nbX (r1 := ((mtT "list" 0 popG (hereP 0) nilX) [some ((oL (oD (eW (eL eS)))) found_), some (.d ((eL eS) lines_))])) (eo := fun (p_ : ((Str × List (List Str)) × (List (Str × List (List Str))))) => (oD (eW (eL eS))) p_.1) (ρe := fun (p_ : ((Str × List (List Str)) × (List (Str × List (List Str))))) => [some ((oL (oD (eW (eL eS)))) p_.2), some (.d ((eL eS) lines_))]) (Smx.cv (Smx.mt (eo := fun (a : ((Str × List (List Str)) × (List (Str × List (List Str))))) => (oD (eW (eL eS))) a.1) (u' := fun a => (oL (oD (eW (eL eS)))) a.2) rfl (pthH (s := 0) rfl) rfl oNilX (fun a q => popG_ok (eo := (oD (eW (eL eS)))) a q)) (fun _ => rfl) (fun _ => rfl)) fun p_ h8 =>
 (Tg.nbX (r1 := ((mapX (mtT "list" 0 popG (hereP 0) nilX) (op2X ixD (c (.int 1)))) [some ((oL (oD (eW (eL eS)))) found_), some (.d ((eL eS) lines_))])) (eo := fun (t_3 : (List Str)) => .d ((eL eS) t_3)) (ρe := fun (t_3 : (List Str)) => [some ((oL (oD (eW (eL eS)))) p_.2), some (.d ((eL eS) lines_))]) (Smx.cv (Smx.mapz h8 rfl (fun a q => op2X_ok rfl (ixW a q))) (fun _ => rfl) (fun _ => rfl)) fun t_3 h9 =>
 (Tg.nbX (r1 := ((op2Y addD (mapX (mtT "list" 0 popG (hereP 0) nilX) (op2X ixD (c (.int 1)))) (xF (v 1))) [some ((oL (oD (eW (eL eS)))) found_), some (.d ((eL eS) lines_))])) (eo := fun (t_4 : (List Str)) => (oD (eL eS)) t_4) (ρe := fun (t_4 : (List Str)) => [some ((oL (oD (eW (eL eS)))) p_.2), some (.d ((eL eS) lines_))]) (Smx.cv (Smx.op2z (x := (eL eS) t_3) (y := (eL eS) lines_) h9 rfl (xF_ok rfl) rfl caL) (fun _ => rfl) (fun _ => rfl)) fun t_4 h10 =>
 (Tg.asgX (i := 1) h10 rfl (hT7.nx rfl)))))) (hT7.nx rfl))) fun s_ ρ hN => by
 obtain rfl := hN
 exact (Tg.one (Tg.app (e := (eW (eL eS))) (x := (("same" : Str), [s_.2])) rfl (calP (cnsP rfl (cnsP (fzP (zL zD) (calP (cnsP rfl nilE) (liL s_.2))) nilE)) mkTP) fun found_1 =>
 (hT.nx ⟨rfl, rfl⟩)))))))
theorem s_add_stretch (found_ : (List (Str × List (List Str)))) (old_ : (List Str)) (mine_ : (List Str)) (theirs_ : (List Str)) : SmG False (fun (r : (Unit × (List (Str × List (List Str))))) => (oD eN) r.1) (fun (r : (Unit × (List (Str × List (List Str))))) => [(oL (oD (eW (eL eS)))) r.2]) [(oL (oD (eW (eL eS)))) found_] (F_add_stretch found_ old_ mine_ theirs_) (D_add_stretch [(oL (oD (eW (eL eS)))) found_, .d ((eL eS) old_), .d ((eL eS) mine_), .d ((eL eS) theirs_)]) := SmG.run (a := 4) (n := 4) (m := [true, false, false, false]) (ts := [(oL (oD (eW (eL eS)))) found_, .d ((eL eS) old_), .d ((eL eS) mine_), .d ((eL eS) theirs_)]) (ρ := [some ((oL (oD (eW (eL eS)))) found_), some (.d ((eL eS) old_)), some (.d ((eL eS) mine_)), some (.d ((eL eS) theirs_))]) (er := (fun (r : (Unit × (List (Str × List (List Str))))) o (ρ : En) => o = (oD eN) r.1 ∧ ρ[0]? = some (some ((oL (oD (eW (eL eS)))) r.2)))) rfl rfl rfl (fun r o ρ h => ⟨h.1, by simp only [outsG, h.2]; rfl⟩) fun T hT =>
 (Tg.one (Tg.ite (andQ (tstE (op2E rfl rfl (eqP (EqnL EqnS) old_ mine_))) (tstE (op2E rfl rfl (eqP (EqnL EqnS) old_ theirs_))))
 (Tg.nbX (r1 := ((callG [true, false] (nxG D_add_same) (lendX 0 (hereP 0) (consX (xF (v 1)) nilX))) [some ((oL (oD (eW (eL eS)))) found_), some (.d ((eL eS) old_)), some (.d ((eL eS) mine_)), some (.d ((eL eS) theirs_))])) (eo := fun (q_ : (Unit × (List (Str × List (List Str))))) => (oD eN) q_.1) (ρe := fun (q_ : (Unit × (List (Str × List (List Str))))) => [some ((oL (oD (eW (eL eS)))) q_.2), some (.d ((eL eS) old_)), some (.d ((eL eS) mine_)), some (.d ((eL eS) theirs_))]) (Smx.cv (Smx.callG (aLend rfl (pthH (s := 0) rfl) (aOwn (xF_ok rfl) aNil)) (SmG.nx (s_add_same found_ old_)) (fun _ => rfl)) (fun _ => rfl) (fun _ => rfl)) fun q_ h1 =>
 (Tg.drpX h1 (hT.nx ⟨rfl, rfl⟩)))
 (Tg.ite (tstE (op2E rfl rfl (eqP (EqnL EqnS) old_ mine_)))
 (Tg.app (e := (eW (eL eS))) (x := (("other" : Str), [old_, theirs_])) rfl (calP (cnsP rfl (cnsP rfl (cnsP rfl nilE))) mkTP) fun found_1 =>
 (hT.nx ⟨rfl, rfl⟩))
 (Tg.ite (tstE (op2E rfl rfl (eqP (EqnL EqnS) old_ theirs_)))
 (Tg.app (e := (eW (eL eS))) (x := (("one" : Str), [old_, mine_])) rfl (calP (cnsP rfl (cnsP rfl (cnsP rfl nilE))) mkTP) fun found_2 =>
 (hT.nx ⟨rfl, rfl⟩))
 (Tg.ite (tstE (op2E rfl rfl (eqP (EqnL EqnS) mine_ theirs_)))
 (Tg.app (e := (eW (eL eS))) (x := (("both" : Str), [old_, mine_])) rfl (calP (cnsP rfl (cnsP rfl (cnsP rfl nilE))) mkTP) fun found_3 =>
 (hT.nx ⟨rfl, rfl⟩))
 (Tg.app (e := (eW (eL eS))) (x := (("clash" : Str), [old_, mine_, theirs_])) rfl (calP (cnsP rfl (cnsP rfl (cnsP rfl (cnsP rfl nilE)))) mkTP) fun found_4 =>
 (hT.nx ⟨rfl, rfl⟩)))))))
theorem s_pieces (base_ : (List Str)) (one_ : (List Str)) (other_ : (List Str)) : Sm True (oL (oD (eW (eL eS)))) (F_pieces base_ one_ other_) (D_pieces [(eL eS) base_, (eL eS) one_, (eL eS) other_]) := Sm.run (a := 3) (n := 11) (F := B_pieces) (ds := [(eL eS) base_, (eL eS) one_, (eL eS) other_]) (ρ := [some (.d ((eL eS) base_)), some (.d ((eL eS) one_)), some (.d ((eL eS) other_)), none, none, none, none, none, none, none, none]) rfl rfl fun T hT =>
 (Tg.fo (N := (fun (s_ : Unit) (ρ : En) => ρ = [some (.d ((eL eS) base_)), some (.d ((eL eS) one_)), some (.d ((eL eS) other_)), none, none, none, none, none, none, none, none])) (e := (eL eS)) (it1E (calP (cnsP rfl (cnsP rfl (cnsP rfl nilE))) mkTP) rfl) rfl (fun TT2 hT2 row_ s_ ρ hN => by
 obtain rfl := hN
 exact ⟨_, rfl, (Tg.drpS (e := eN) (id (Sm.fzE zD (Sm.call (cnsP rfl nilE) (s_check_row row_)))) (hT2.X (hT.X _)) (Tg.fg (hT2.nx rfl)))⟩) (fun s_1 ρ hN => by
 obtain rfl := hN
 exact (Tg.fg (Tg.asgO (e := (oL (oD (eW (eL eS))))) (t := ([] : (List (Str × List (List Str))))) (calP nilE mkOP) fun found_ =>
 (Tg.asgG (calP (cnsP rfl (cnsP rfl (cnsP rfl nilE))) mkTP) rfl (Tg.nb (e := (eL (eT3 eI eI eI))) (r1 := (fzE (call D_held (consA (v 0) (consA (v 1) (consA (v 2) nilA))))) [some (.d ((eL eS) base_)), some (.d ((eL eS) one_)), some (.d ((eL eS) other_)), none, some ((oL (oD (eW (eL eS)))) found_), some (.d (eI 0)), some (.d (eI 0)), some (.d (eI 0)), none, none, none]) (Sm.weak (Sm.fzE (zL zD) (Sm.call (cnsP rfl (cnsP rfl (cnsP rfl nilE))) (s_held base_ one_ other_)))) fun t_1 h4 =>
 (Tg.fo (N := (fun (s_2 : ((List (Str × List (List Str))) × Int × Int × Int)) (ρ : En) => ρ = [some (.d ((eL eS) base_)), some (.d ((eL eS) one_)), some (.d ((eL eS) other_)), none, some ((oL (oD (eW (eL eS)))) s_2.1), some (.d (eI s_2.2.1)), some (.d (eI s_2.2.2.1)), some (.d (eI s_2.2.2.2)), none, none, none])) (e := (eT3 eI eI eI)) (it1E h4 (wkL t_1)) rfl (fun TT17 hT17 p_ s_2 ρ hN => by
 obtain rfl := hN
 exact ⟨_, rfl, (Tg.nbX (r1 := ((callG [true, false, false, false] (nxG D_add_stretch) (lendX 4 (hereP 4) (consX (xF (sli (v 0) (part (v 5)) (part (v 8)))) (consX (xF (sli (v 1) (part (v 6)) (part (v 9)))) (consX (xF (sli (v 2) (part (v 7)) (part (v 10)))) nilX))))) [some (.d ((eL eS) base_)), some (.d ((eL eS) one_)), some (.d ((eL eS) other_)), none, some ((oL (oD (eW (eL eS)))) s_2.1), some (.d (eI s_2.2.1)), some (.d (eI s_2.2.2.1)), some (.d (eI s_2.2.2.2)), some (.d (eI p_.1)), some (.d (eI p_.2.1)), some (.d (eI p_.2.2))])) (eo := fun (q_ : (Unit × (List (Str × List (List Str))))) => (oD eN) q_.1) (ρe := fun (q_ : (Unit × (List (Str × List (List Str))))) => [some (.d ((eL eS) base_)), some (.d ((eL eS) one_)), some (.d ((eL eS) other_)), none, some ((oL (oD (eW (eL eS)))) q_.2), some (.d (eI s_2.2.1)), some (.d (eI s_2.2.2.1)), some (.d (eI s_2.2.2.2)), some (.d (eI p_.1)), some (.d (eI p_.2.1)), some (.d (eI p_.2.2))]) (Smx.cv (Smx.callG (aLend rfl (pthH (s := 4) rfl) (aOwn (xF_ok (sliP rfl (partP rfl) (partP rfl) (slL base_ _ _))) (aOwn (xF_ok (sliP rfl (partP rfl) (partP rfl) (slL one_ _ _))) (aOwn (xF_ok (sliP rfl (partP rfl) (partP rfl) (slL other_ _ _))) aNil)))) (SmG.nx (s_add_stretch s_2.1 (cutL base_ (some s_2.2.1) (some p_.1)) (cutL one_ (some s_2.2.2.1) (some p_.2.1)) (cutL other_ (some s_2.2.2.2) (some p_.2.2)))) (fun _ => rfl)) (fun _ => rfl) (fun _ => rfl)) fun q_ h18 =>
 (Tg.drpX h18 (Tg.nb (e := eS) (r1 := (op2 ixD (v 0) (v 8)) [some (.d ((eL eS) base_)), some (.d ((eL eS) one_)), some (.d ((eL eS) other_)), none, none, some (.d (eI s_2.2.1)), some (.d (eI s_2.2.2.1)), some (.d (eI s_2.2.2.2)), some (.d (eI p_.1)), some (.d (eI p_.2.1)), some (.d (eI p_.2.2))]) (Sm.op2 rfl rfl ixL) fun t_2 h19 =>
 (Tg.nbX (r1 := ((callG [true, false] (nxG D_add_same) (lendX 4 (hereP 4) (consX (xF (cal mkL (consA (op2 ixD (v 0) (v 8)) nilA))) nilX))) [some (.d ((eL eS) base_)), some (.d ((eL eS) one_)), some (.d ((eL eS) other_)), none, some ((oL (oD (eW (eL eS)))) q_.2), some (.d (eI s_2.2.1)), some (.d (eI s_2.2.2.1)), some (.d (eI s_2.2.2.2)), some (.d (eI p_.1)), some (.d (eI p_.2.1)), some (.d (eI p_.2.2))])) (eo := fun (q_1 : (Unit × (List (Str × List (List Str))))) => (oD eN) q_1.1) (ρe := fun (q_1 : (Unit × (List (Str × List (List Str))))) => [some (.d ((eL eS) base_)), some (.d ((eL eS) one_)), some (.d ((eL eS) other_)), none, some ((oL (oD (eW (eL eS)))) q_1.2), some (.d (eI s_2.2.1)), some (.d (eI s_2.2.2.1)), some (.d (eI s_2.2.2.2)), some (.d (eI p_.1)), some (.d (eI p_.2.1)), some (.d (eI p_.2.2))]) (Smx.cv (Smx.callG (aLend rfl (pthH (s := 4) rfl) (aOwn (xF_ok (calP (cnsP h19 nilE) mkLP)) aNil)) (SmG.nx (s_add_same q_.2 [t_2])) (fun _ => rfl)) (fun _ => rfl) (fun _ => rfl)) fun q_1 h20 =>
 (Tg.drpX h20 (Tg.nb (e := (oD eI)) (r1 := (ofE (op2 addD (v 8) (c (.int 1)))) [some (.d ((eL eS) base_)), some (.d ((eL eS) one_)), some (.d ((eL eS) other_)), none, some ((oL (oD (eW (eL eS)))) q_1.2), some (.d (eI s_2.2.1)), some (.d (eI s_2.2.2.1)), some (.d (eI s_2.2.2.2)), some (.d (eI p_.1)), some (.d (eI p_.2.1)), some (.d (eI p_.2.2))]) (Sm.p (ofP (op2E rfl rfl rfl))) fun a_ h21 =>
 (Tg.nb (e := (oD eI)) (r1 := (ofE (op2 addD (v 9) (c (.int 1)))) [some (.d ((eL eS) base_)), some (.d ((eL eS) one_)), some (.d ((eL eS) other_)), none, some ((oL (oD (eW (eL eS)))) q_1.2), some (.d (eI s_2.2.1)), some (.d (eI s_2.2.2.1)), some (.d (eI s_2.2.2.2)), some (.d (eI p_.1)), some (.d (eI p_.2.1)), some (.d (eI p_.2.2))]) (Sm.p (ofP (op2E rfl rfl rfl))) fun b_ h22 =>
 (Tg.nb (e := (oD eI)) (r1 := (ofE (op2 addD (v 10) (c (.int 1)))) [some (.d ((eL eS) base_)), some (.d ((eL eS) one_)), some (.d ((eL eS) other_)), none, some ((oL (oD (eW (eL eS)))) q_1.2), some (.d (eI s_2.2.1)), some (.d (eI s_2.2.2.1)), some (.d (eI s_2.2.2.2)), some (.d (eI p_.1)), some (.d (eI p_.2.1)), some (.d (eI p_.2.2))]) (Sm.p (ofP (op2E rfl rfl rfl))) fun c_ h23 =>
 (Tg.par3 h21 h22 h23 (Tg.fg (Tg.fg (Tg.fg (hT17.nx rfl)))))))))))))⟩) (fun s_3 ρ hN => by
 obtain rfl := hN
 exact (Tg.fg (Tg.fg (Tg.fg (Tg.nbX (r1 := ((callG [true, false, false, false] (nxG D_add_stretch) (lendX 4 (hereP 4) (consX (xF (sli (v 0) (part (v 5)) noP)) (consX (xF (sli (v 1) (part (v 6)) noP)) (consX (xF (sli (v 2) (part (v 7)) noP)) nilX))))) [some (.d ((eL eS) base_)), some (.d ((eL eS) one_)), some (.d ((eL eS) other_)), none, some ((oL (oD (eW (eL eS)))) s_3.1), some (.d (eI s_3.2.1)), some (.d (eI s_3.2.2.1)), some (.d (eI s_3.2.2.2)), none, none, none])) (eo := fun (q_2 : (Unit × (List (Str × List (List Str))))) => (oD eN) q_2.1) (ρe := fun (q_2 : (Unit × (List (Str × List (List Str))))) => [some (.d ((eL eS) base_)), some (.d ((eL eS) one_)), some (.d ((eL eS) other_)), none, some ((oL (oD (eW (eL eS)))) q_2.2), some (.d (eI s_3.2.1)), some (.d (eI s_3.2.2.1)), some (.d (eI s_3.2.2.2)), none, none, none]) (Smx.cv (Smx.callG (aLend rfl (pthH (s := 4) rfl) (aOwn (xF_ok (sliP rfl (partP rfl) rfl (slL base_ _ _))) (aOwn (xF_ok (sliP rfl (partP rfl) rfl (slL one_ _ _))) (aOwn (xF_ok (sliP rfl (partP rfl) rfl (slL other_ _ _))) aNil)))) (SmG.nx (s_add_stretch s_3.1 (cutL base_ (some s_3.2.1) none) (cutL one_ (some s_3.2.2.1) none) (cutL other_ (some s_3.2.2.2) none))) (fun _ => rfl)) (fun _ => rfl) (fun _ => rfl)) fun q_2 h24 =>
 (Tg.drpX h24 (Tg.one (Tg.sretM (i := 4) rfl (hT.rt rfl))))))))))))))))
theorem s__law_settled (told_ : (List (Str × List (List Str)))) (picks_ : (List Str)) : Sm False (oL (oD eS)) (F__law_settled told_ picks_) (D__law_settled [(eL (eW (eL eS))) told_, (eL eS) picks_]) := Sm.run (a := 2) (n := 8) (F := B__law_settled) (ds := [(eL (eW (eL eS))) told_, (eL eS) picks_]) (ρ := [some (.d ((eL (eW (eL eS))) told_)), some (.d ((eL eS) picks_)), none, none, none, none, none, none]) rfl rfl fun T hT =>
 (Tg.asgO (e := (oL (oD eS))) (t := picks_) (calP (cnsP rfl nilE) (liL picks_)) fun left_ =>
 (Tg.asgO (e := (oL (oD eS))) (t := ([] : (List Str))) (calP nilE mkOP) fun row_ =>
 (Tg.fo (N := (fun (s_ : ((List Str) × (List Str))) (ρ : En) => ρ = [some (.d ((eL (eW (eL eS))) told_)), some (.d ((eL eS) picks_)), some ((oL (oD eS)) s_.1), some ((oL (oD eS)) s_.2), none, none, none, none])) (e := (eW (eL eS))) (it1E rfl (wkL told_)) rfl (fun TT47 hT47 piece_ s_ ρ hN => by
 obtain rfl := hN
 exact ⟨_, rfl, (Tg.nb (e := (eL eS)) (r1 := (op2 ixD (v 4) (op1 negD (c (.int 1)))) [some (.d ((eL (eW (eL eS))) told_)), some (.d ((eL eS) picks_)), some ((oL (oD eS)) s_.1), some ((oL (oD eS)) s_.2), some (.d ((eW (eL eS)) piece_)), none, none, none]) (Sm.op2 rfl (op1E rfl rfl) ixW) fun lines_ h48 =>
 (Tg.asg1 h48 (Tg.jn (N := (fun (s_1 : ((List Str) × (List Str))) (ρ : En) => ∃ (j_ : Option OT), ρ = [some (.d ((eL (eW (eL eS))) told_)), some (.d ((eL eS) picks_)), some ((oL (oD eS)) s_1.1), some ((oL (oD eS)) s_.2), some (.d ((eW (eL eS)) piece_)), some (.d ((eL eS) s_1.2)), j_, none])) (fun TT59 hT59 => (Tg.ite1 (tstE (op2E (op2E rfl rfl (ixW0 piece_)) rfl (eqP EqnS piece_.1 ("clash" : Str)))) (Tg.nb (e := (eL eS)) (r1 := (op2 ixD (v 4) (c (.int 1))) [some (.d ((eL (eW (eL eS))) told_)), some (.d ((eL eS) picks_)), some ((oL (oD eS)) s_.1), some ((oL (oD eS)) s_.2), some (.d ((eW (eL eS)) piece_)), some (.d ((eL eS) lines_)), none, none]) (Sm.op2 rfl rfl ixW) fun t_1 h60 =>
 (Tg.nb (e := (eL eS)) (r1 := (op2 ixD (v 4) (c (.int 2))) [some (.d ((eL (eW (eL eS))) told_)), some (.d ((eL eS) picks_)), some ((oL (oD eS)) s_.1), some ((oL (oD eS)) s_.2), some (.d ((eW (eL eS)) piece_)), some (.d ((eL eS) lines_)), none, none]) (Sm.op2 rfl rfl ixW) fun t_2 h61 =>
 (Tg.nb (e := (eL eS)) (r1 := (op2 ixD (v 4) (c (.int 3))) [some (.d ((eL (eW (eL eS))) told_)), some (.d ((eL eS) picks_)), some ((oL (oD eS)) s_.1), some ((oL (oD eS)) s_.2), some (.d ((eW (eL eS)) piece_)), some (.d ((eL eS) lines_)), none, none]) (Sm.op2 rfl rfl ixW) fun t_3 h62 =>
 (Tg.asg (e := (eKS (eL eS))) (t := [(("old" : Str), t_1), (("one" : Str), t_2), (("other" : Str), t_3)]) (fzP (zKS zD) (dispE (consPE rfl h60 (consPE rfl h61 (consPE rfl h62 nilPE))) (by rfl))) fun some_ =>
 (Tg.asg (e := (eL eS)) (t := ([] : (List Str))) (calP nilE mkLP) fun lines_1 =>
 (Tg.one (Tg.nbX (r1 := ((mtT "list" 2 popAtG (hereP 2) (consX (xF (c (.int 0))) nilX)) [some (.d ((eL (eW (eL eS))) told_)), some (.d ((eL eS) picks_)), some ((oL (oD eS)) s_.1), some ((oL (oD eS)) s_.2), some (.d ((eW (eL eS)) piece_)), some (.d ((eL eS) lines_1)), some (.d ((eKS (eL eS)) some_)), none])) (eo := fun (p_ : (Str × (List Str))) => (oD eS) p_.1) (ρe := fun (p_ : (Str × (List Str))) => [some (.d ((eL (eW (eL eS))) told_)), some (.d ((eL eS) picks_)), some ((oL (oD eS)) p_.2), some ((oL (oD eS)) s_.2), some (.d ((eW (eL eS)) piece_)), some (.d ((eL eS) lines_1)), some (.d ((eKS (eL eS)) some_)), none]) (Smx.cv (Smx.mt (eo := fun (a : (Str × (List Str))) => (oD eS) a.1) (u' := fun a => (oL (oD eS)) a.2) rfl (pthH (s := 2) rfl) rfl (oConsX (xF_ok rfl) oNilX) (fun a q => popAtG_ok (eo := (oD eS)) a q)) (fun _ => rfl) (fun _ => rfl)) fun p_ h63 =>
 (Tg.nbX (r1 := ((mtoX "str" splO (mtT "list" 2 popAtG (hereP 2) (consX (xF (c (.int 0))) nilX)) (consA (c (.str (" " : Str))) nilA)) [some (.d ((eL (eW (eL eS))) told_)), some (.d ((eL eS) picks_)), some ((oL (oD eS)) s_.1), some ((oL (oD eS)) s_.2), some (.d ((eW (eL eS)) piece_)), some (.d ((eL eS) lines_1)), some (.d ((eKS (eL eS)) some_)), none])) (eo := fun (t_4 : (List Str)) => (oL (oD eS)) t_4) (ρe := fun (t_4 : (List Str)) => [some (.d ((eL (eW (eL eS))) told_)), some (.d ((eL eS) picks_)), some ((oL (oD eS)) p_.2), some ((oL (oD eS)) s_.2), some (.d ((eW (eL eS)) piece_)), some (.d ((eL eS) lines_1)), some (.d ((eKS (eL eS)) some_)), none]) (Smx.cv (Smx.mto h63 rfl (cnsP rfl nilE) rfl splP) (fun _ => rfl) (fun _ => rfl)) fun t_4 h64 =>
 (Tg.foX (xs := List.map eS t_4) h64 ((zL zD) t_4) (Tg.fo (N := (fun (lines_2 : (List Str)) (ρ : En) => ρ = [some (.d ((eL (eW (eL eS))) told_)), some (.d ((eL eS) picks_)), some ((oL (oD eS)) p_.2), some ((oL (oD eS)) s_.2), some (.d ((eW (eL eS)) piece_)), some (.d ((eL eS) lines_2)), some (.d ((eKS (eL eS)) some_)), none])) (e := eS) rfl rfl (fun TT67 hT67 word_ lines_2 ρ hN => by
 obtain rfl := hN
 exact ⟨_, rfl, (Tg.nb (e := (eL eS)) (r1 := (op2 ixD (v 6) (v 7)) [some (.d ((eL (eW (eL eS))) told_)), some (.d ((eL eS) picks_)), some ((oL (oD eS)) p_.2), some ((oL (oD eS)) s_.2), some (.d ((eW (eL eS)) piece_)), some (.d ((eL eS) lines_2)), some (.d ((eKS (eL eS)) some_)), some (.d (eS word_))]) (Sm.op2 (y := eS word_) rfl rfl ixKS) fun t_5 h68 =>
 (Tg.nb (e := (eL eS)) (r1 := (op2 addD (v 5) (op2 ixD (v 6) (v 7))) [some (.d ((eL (eW (eL eS))) told_)), some (.d ((eL eS) picks_)), some ((oL (oD eS)) p_.2), some ((oL (oD eS)) s_.2), some (.d ((eW (eL eS)) piece_)), some (.d ((eL eS) lines_2)), some (.d ((eKS (eL eS)) some_)), some (.d (eS word_))]) (Sm.op2 (x := (eL eS) lines_2) (y := (eL eS) t_5) rfl h68 caL) fun lines_3 h69 =>
 (Tg.asg1 h69 (Tg.fg (hT67.nx rfl)))))⟩) (fun lines_4 ρ hN => by
 obtain rfl := hN
 exact (hT59.nx ⟨_, rfl⟩)))))))))))) (hT59.nx ⟨_, rfl⟩))) fun s_1 ρ hN => by
 obtain ⟨j_, rfl⟩ := hN
 exact (Tg.fg (Tg.fg (Tg.fz (i := 3) rfl ((zL zD) s_.2) (Tg.nb (e := (oL (oD eS))) (r1 := (op2O addO (v 3) (v 5)) [some (.d ((eL (eW (eL eS))) told_)), some (.d ((eL eS) picks_)), some ((oL (oD eS)) s_1.1), some (.d ((eL eS) s_.2)), some (.d ((eW (eL eS)) piece_)), some (.d ((eL eS) s_1.2)), none, none]) (Sm.op2O (x := (eL eS) s_.2) (y := (eL eS) s_1.2) rfl rfl caO) fun row_1 h70 =>
 (Tg.asgO1 h70 (Tg.fg (Tg.fg (Tg.fg (Tg.fg (hT47.nx rfl)))))))))))))⟩) (fun s_2 ρ hN => by
 obtain rfl := hN
 exact (Tg.fg (Tg.fg (Tg.fg (Tg.fg (Tg.one (Tg.sretM (i := 3) rfl (hT.rt rfl)))))))))))
theorem s_has_clash (told_ : (List (Str × List (List Str)))) : Sm False (oD eB) (F_has_clash told_) (D_has_clash [(eL (eW (eL eS))) told_]) := Sm.run (a := 1) (n := 2) (F := B_has_clash) (ds := [(eL (eW (eL eS))) told_]) (ρ := [some (.d ((eL (eW (eL eS))) told_)), none]) rfl rfl fun T hT =>
 (Tg.one (Tg.sret (calP (cnsP (fzP (zL zD) (compY (e := (eW (eL eS))) (eo := (oD eB)) (fun (piece_ : (Str × List (List Str))) => (decide (piece_.1 = ("clash" : Str)))) (it1E rfl (wkL told_)) fun piece_ => ⟨_, rfl, (ofP (op2E (op2E rfl rfl (ixW0 piece_)) rfl (eqP EqnS piece_.1 ("clash" : Str))))⟩)) nilE) (anP (told_.map fun (piece_ : (Str × List (List Str))) => (decide (piece_.1 = ("clash" : Str)))))) (hT.rt rfl)))
theorem s_merged_lines (told_ : (List (Str × List (List Str)))) : Sm False (oL (oD eS)) (F_merged_lines told_) (D_merged_lines [(eL (eW (eL eS))) told_]) := Sm.run (a := 1) (n := 3) (F := B_merged_lines) (ds := [(eL (eW (eL eS))) told_]) (ρ := [some (.d ((eL (eW (eL eS))) told_)), none, none]) rfl rfl fun T hT =>
 (Tg.asgO (e := (oL (oD eS))) (t := ([] : (List Str))) (calP nilE mkOP) fun found_ =>
 (Tg.fo (N := (fun (found_1 : (List Str)) (ρ : En) => ρ = [some (.d ((eL (eW (eL eS))) told_)), some ((oL (oD eS)) found_1), none])) (e := (eW (eL eS))) (it1E rfl (wkL told_)) rfl (fun TT3 hT3 piece_ found_1 ρ hN => by
 obtain rfl := hN
 exact ⟨_, rfl, (Tg.nb (e := (eL eS)) (r1 := (op2 ixD (v 2) (op1 negD (c (.int 1)))) [some (.d ((eL (eW (eL eS))) told_)), some ((oL (oD eS)) found_1), some (.d ((eW (eL eS)) piece_))]) (Sm.op2 rfl (op1E rfl rfl) ixW) fun t_ h4 =>
 (Tg.ext (e := eS) (m := t_) rfl h4 fun found_2 =>
 (Tg.fg (hT3.nx rfl))))⟩) (fun found_3 ρ hN => by
 obtain rfl := hN
 exact (Tg.fg (Tg.one (Tg.sretM (i := 1) rfl (hT.rt rfl)))))))
theorem s_as_row (lines_ : (List Str)) : SmG True (fun (r : (List Str)) => (oL (oD eS)) r) (fun (r : (List Str)) => []) [] (F_as_row lines_) (D_as_row [(oL (oD eS)) lines_]) := SmG.run (a := 1) (n := 1) (m := [false]) (ts := [(oL (oD eS)) lines_]) (ρ := [some ((oL (oD eS)) lines_)]) (er := (fun r o (ρ : En) => o = (oL (oD eS)) r)) rfl rfl rfl (fun r o ρ h => ⟨h, by rfl⟩) fun T hT =>
 (Tg.nb (e := (oD eN)) (r1 := (borO (call D_check_row (consA (v 0) nilA))) [some ((oL (oD eS)) lines_)]) (borS (fun _ => rfl) (frO ((zL zD) lines_) fr0) (Sm.nb (e1 := (oD eN)) (r1 := (call D_check_row (consA (v 0) nilA)) [some (.d ((eL eS) lines_))]) (Sm.weak (Sm.call (cnsP rfl nilE) (s_check_row lines_))) fun t_ h1 => (Sm.p h1))) fun t_1 h2 =>
 (Tg.drp (fzP zD h2) (Tg.one (Tg.sretM (i := 0) rfl (hT.rt rfl)))))
theorem s_merged (told_ : (List (Str × List (List Str)))) : Sm True (oL (oD eS)) (F_merged told_) (D_merged [(eL (eW (eL eS))) told_]) := Sm.run (a := 1) (n := 1) (F := B_merged) (ds := [(eL (eW (eL eS))) told_]) (ρ := [some (.d ((eL (eW (eL eS))) told_))]) rfl rfl fun T hT =>
 (Tg.nb (e := eB) (r1 := (fzE (call (nx0 D_has_clash) (consA (v 0) nilA))) [some (.d ((eL (eW (eL eS))) told_))]) (Sm.fzE zD (Sm.call0 (cnsP rfl nilE) (s_has_clash told_))) fun t_ h1 =>
 (Tg.ite (tstE h1)
 (Tg.sraP (e := (eL eI)) (Sm.p (calP nilE mkLP)) (hT.X _))
 (Tg.nil (Tg.one (Tg.nb (e := (oL (oD eS))) (r1 := (call (nx0 D_merged_lines) (consA (v 0) nilA)) [some (.d ((eL (eW (eL eS))) told_))]) (Sm.call0 (cnsP rfl nilE) (s_merged_lines told_)) fun t_1 h2 =>
 (Tg.nbX (r1 := ((callG [false] D_as_row (consX (xO (call (nx0 D_merged_lines) (consA (v 0) nilA))) nilX)) [some (.d ((eL (eW (eL eS))) told_))])) (eo := fun (q_ : (List Str)) => (oL (oD eS)) q_) (ρe := fun (q_ : (List Str)) => [some (.d ((eL (eW (eL eS))) told_))]) (Smx.cv (Smx.callG (aOwn (xO_ok h2) aNil) (s_as_row t_1) (fun _ => rfl)) (fun _ => rfl) (fun _ => rfl)) fun q_ h3 =>
 (Tg.sretX h3 (hT.rt rfl))))))))
theorem s_picked (piece_ : (Str × List (List Str))) (pick_ : Str) : Sm True (oD (eL eS)) (F_picked piece_ pick_) (D_picked [(eW (eL eS)) piece_, eS pick_]) := Sm.run (a := 2) (n := 5) (F := B_picked) (ds := [(eW (eL eS)) piece_, eS pick_]) (ρ := [some (.d ((eW (eL eS)) piece_)), some (.d (eS pick_)), none, none, none]) rfl rfl fun T hT =>
 (Tg.nb (e := (eV (eL eS))) (r1 := (sli (v 0) (part (c (.int 1))) noP) [some (.d ((eW (eL eS)) piece_)), some (.d (eS pick_)), none, none, none]) (Sm.sli rfl (partP rfl) rfl slWt) fun t_ h1 =>
 (Tg.nb (e := (eT3 (eL eS) (eL eS) (eL eS))) (r1 := (sli (v 0) (part (c (.int 1))) noP) [some (.d ((eW (eL eS)) piece_)), some (.d (eS pick_)), none, none, none]) (Sm.un3V h1) fun p_ h2 =>
 (Tg.asgG h2 rfl (Tg.ite (tstE (op2E rfl rfl (eqP EqnS pick_ ("old" : Str))))
 (Tg.sret rfl (hT.rt rfl))
 (Tg.nil (Tg.ite (tstE (op2E rfl rfl (eqP EqnS pick_ ("one" : Str))))
 (Tg.sret rfl (hT.rt rfl))
 (Tg.nil (Tg.ite (tstE (op2E rfl rfl (eqP EqnS pick_ ("other" : Str))))
 (Tg.sret rfl (hT.rt rfl))
 (Tg.nil (Tg.ite (tstE (op2E rfl rfl (eqP EqnS pick_ ("one other" : Str))))
 (Tg.nb (e := (eL eS)) (r1 := (op2 addD (v 3) (v 4)) [some (.d ((eW (eL eS)) piece_)), some (.d (eS pick_)), some (.d ((eL eS) p_.1)), some (.d ((eL eS) p_.2.1)), some (.d ((eL eS) p_.2.2))]) (Sm.op2 (x := (eL eS) p_.2.1) (y := (eL eS) p_.2.2) rfl rfl caL) fun t_1 h3 =>
 (Tg.sret h3 (hT.rt rfl)))
 (Tg.nil (Tg.ite (tstE (op2E rfl rfl (eqP EqnS pick_ ("other one" : Str))))
 (Tg.nb (e := (eL eS)) (r1 := (op2 addD (v 4) (v 3)) [some (.d ((eW (eL eS)) piece_)), some (.d (eS pick_)), some (.d ((eL eS) p_.1)), some (.d ((eL eS) p_.2.1)), some (.d ((eL eS) p_.2.2))]) (Sm.op2 (x := (eL eS) p_.2.2) (y := (eL eS) p_.2.1) rfl rfl caL) fun t_2 h4 =>
 (Tg.sret h4 (hT.rt rfl)))
 (Tg.nil (Tg.one (Tg.sra (hT.X _))))))))))))))))
theorem s_settled (told_ : (List (Str × List (List Str)))) (picks_ : (List Str)) : Sm True (oL (oD eS)) (F_settled told_ picks_) (D_settled [(eL (eW (eL eS))) told_, (eL eS) picks_]) := Sm.run (a := 2) (n := 5) (F := B_settled) (ds := [(eL (eW (eL eS))) told_, (eL eS) picks_]) (ρ := [some (.d ((eL (eW (eL eS))) told_)), some (.d ((eL eS) picks_)), none, none, none]) rfl rfl fun T hT =>
 (Tg.ite (tstE (op2E (calP (cnsP rfl nilE) (lnL picks_)) (calP (cnsP (fzP (zL zD) (compF (e := (eW (eL eS))) (fun (piece_ : (Str × List (List Str))) => (decide (piece_.1 = ("clash" : Str)))) (it1E rfl (wkL told_)) fun piece_ => ⟨_, rfl, (tstE (op2E (op2E rfl rfl (ixW0 piece_)) rfl (eqP EqnS piece_.1 ("clash" : Str)))), (ofP rfl)⟩)) nilE) (lnL (told_.filter fun (piece_ : (Str × List (List Str))) => (decide (piece_.1 = ("clash" : Str)))))) (neP EqnI (picks_.length : Int) ((told_.filter fun (piece_ : (Str × List (List Str))) => (decide (piece_.1 = ("clash" : Str)))).length : Int))))
 (Tg.sra (hT.X _))
 (Tg.nil (Tg.asgO (e := (oL (oD eS))) (t := picks_) (calP (cnsP rfl nilE) (liL picks_)) fun left_ =>
 (Tg.asgO (e := (oL (oD eS))) (t := ([] : (List Str))) (calP nilE mkOP) fun found_ =>
 (Tg.fo (N := (fun (s_ : ((List Str) × (List Str))) (ρ : En) => ρ = [some (.d ((eL (eW (eL eS))) told_)), some (.d ((eL eS) picks_)), some ((oL (oD eS)) s_.1), some ((oL (oD eS)) s_.2), none])) (e := (eW (eL eS))) (it1E rfl (wkL told_)) rfl (fun TT15 hT15 piece_1 s_ ρ hN => by
 obtain rfl := hN
 exact ⟨_, rfl, (Tg.jn (N := (fun (s_1 : ((List Str) × (List Str))) (ρ : En) => ρ = [some (.d ((eL (eW (eL eS))) told_)), some (.d ((eL eS) picks_)), some ((oL (oD eS)) s_1.1), some ((oL (oD eS)) s_1.2), some (.d ((eW (eL eS)) piece_1))])) (fun TT19 hT19 => (Tg.ite1 (tstE (op2E (op2E rfl rfl (ixW0 piece_1)) rfl (eqP EqnS piece_1.1 ("clash" : Str)))) (Tg.one (Tg.nbX (r1 := ((mtT "list" 2 popAtG (hereP 2) (consX (xF (c (.int 0))) nilX)) [some (.d ((eL (eW (eL eS))) told_)), some (.d ((eL eS) picks_)), some ((oL (oD eS)) s_.1), some ((oL (oD eS)) s_.2), some (.d ((eW (eL eS)) piece_1))])) (eo := fun (p_ : (Str × (List Str))) => (oD eS) p_.1) (ρe := fun (p_ : (Str × (List Str))) => [some (.d ((eL (eW (eL eS))) told_)), some (.d ((eL eS) picks_)), some ((oL (oD eS)) p_.2), some ((oL (oD eS)) s_.2), some (.d ((eW (eL eS)) piece_1))]) (Smx.cv (Smx.mt (eo := fun (a : (Str × (List Str))) => (oD eS) a.1) (u' := fun a => (oL (oD eS)) a.2) rfl (pthH (s := 2) rfl) rfl (oConsX (xF_ok rfl) oNilX) (fun a q => popAtG_ok (eo := (oD eS)) a q)) (fun _ => rfl) (fun _ => rfl)) fun p_ h20 =>
 (Tg.extXS (e := eS) (eo := fun (q_ : (List Str)) => (oD (eL eS)) q_) (ρe := fun (q_ : (List Str)) => [some (.d ((eL (eW (eL eS))) told_)), some (.d ((eL eS) picks_)), some ((oL (oD eS)) p_.2), some ((oL (oD eS)) s_.2), some (.d ((eW (eL eS)) piece_1))]) rfl (Smx.cv (Smx.callD (oConsX (xF_ok rfl) (oConsX h20 oNilX)) (fzsC rfl (fzsC rfl fzsN)) (s_picked piece_1 p_.1)) (fun _ => rfl) (fun _ => rfl)) (Smz.callD (oConsX (xF_ok rfl) (oConsX h20 oNilX)) (fzsC rfl (fzsC rfl fzsN)) (s_picked piece_1 p_.1)) (fun q_ => rfl) (fun q_ => rfl) (hT19.X (hT15.X (hT.X _))) fun q_ found_1 =>
 (hT19.nx rfl)))) (Tg.one (Tg.nb (e := (eL eS)) (r1 := (op2 ixD (v 4) (op1 negD (c (.int 1)))) [some (.d ((eL (eW (eL eS))) told_)), some (.d ((eL eS) picks_)), some ((oL (oD eS)) s_.1), some ((oL (oD eS)) s_.2), some (.d ((eW (eL eS)) piece_1))]) (Sm.op2 rfl (op1E rfl rfl) ixW) fun t_ h22 =>
 (Tg.ext (e := eS) (m := t_) rfl h22 fun found_2 =>
 (hT19.nx rfl)))))) fun s_1 ρ hN => by
 obtain rfl := hN
 exact (Tg.fg (hT15.nx rfl)))⟩) (fun s_2 ρ hN => by
 obtain rfl := hN
 exact (Tg.fg (Tg.one (Tg.nbX (r1 := ((callG [false] D_as_row (consX (mvX 3) nilX)) [some (.d ((eL (eW (eL eS))) told_)), some (.d ((eL eS) picks_)), some ((oL (oD eS)) s_2.1), some ((oL (oD eS)) s_2.2), none])) (eo := fun (q_1 : (List Str)) => (oL (oD eS)) q_1) (ρe := fun (q_1 : (List Str)) => [some (.d ((eL (eW (eL eS))) told_)), some (.d ((eL eS) picks_)), some ((oL (oD eS)) s_2.1), none, none]) (Smx.cv (Smx.callG (aOwn (mvX_ok rfl) aNil) (s_as_row s_2.2) (fun _ => rfl)) (fun _ => rfl) (fun _ => rfl)) fun q_1 h23 =>
 (Tg.sretX h23 (hT.rt rfl)))))))))))
theorem s__law_kind (a : Addr) (sq : (Option (Addr × D))) (xc : Str) : Sm False (oD eS) (F__law_kind xc) (D__law_kind a (sq.map fun z : Addr × D => z.1) xc [(exD a) sq]) := Sm.run (a := 1) (n := 2) (F := B__law_kind a (sq.map fun z : Addr × D => z.1) xc) (ds := [(exD a) sq]) (ρ := [some (.d ((exD a) sq)), none]) rfl rfl fun T hT =>
 (Tg.asg (e := (eL eB)) (t := [(exS xc ("BadRow" : Str)), (exS xc ("NoFit" : Str)), (exS xc ("BadTree" : Str)), (exS xc ("BadWeb" : Str))]) (calP (cnsP (op1XQ rfl) (cnsP (op1XQ rfl) (cnsP (op1XQ rfl) (cnsP (op1XQ rfl) nilE)))) mkLP) fun marks_ =>
 (Tg.nb (e := (eL eB)) (r1 := (op2 addD (v 1) (cal mkL (consA (op1 (isXQ a (sq.map fun z : Addr × D => z.1) (exS xc ("NoVersion" : Str))) (v 0)) (consA (op1 (isXQ a (sq.map fun z : Addr × D => z.1) (exS xc ("Clash" : Str))) (v 0)) nilA)))) [some (.d ((exD a) sq)), some (.d ((eL eB) marks_))]) (Sm.op2 (x := (eL eB) marks_) (y := (eL eB) [(exS xc ("NoVersion" : Str)), (exS xc ("Clash" : Str))]) rfl (calP (cnsP (op1XQ rfl) (cnsP (op1XQ rfl) nilE)) mkLP) caL) fun marks_1 h1 =>
 (Tg.asg1 h1 (Tg.ite (orQ (notT_ok (tstE (op1XQ rfl))) (orQ (tstE (op2E (metP rfl (cnsP rfl nilE) rfl (cntP EqnB (fun _ => rfl) marks_1 true)) rfl (neP EqnI ((marks_1.count true : Nat) : Int) 1))) (tstE (op1XQ rfl))))
 (Tg.sret rfl (hT.rt rfl))
 (Tg.nil (Tg.one (Tg.nb (e := eI) (r1 := (met "list" idxL (v 1) (consA (c (.bl true)) nilA)) [some (.d ((exD a) sq)), some (.d ((eL eB) marks_1))]) (Sm.met rfl (cnsP rfl nilE) rfl (idxP EqnB (fun _ => rfl) marks_1 true)) fun t_1 h2 =>
 (Tg.nb (e := eS) (r1 := (op2 ixD (cal mkL (consA (c (.str ("row" : Str))) (consA (c (.str ("fit" : Str))) (consA (c (.str ("tree" : Str))) (consA (c (.str ("web" : Str))) (consA (c (.str ("version" : Str))) (consA (c (.str ("clash" : Str))) nilA))))))) (met "list" idxL (v 1) (consA (c (.bl true)) nilA))) [some (.d ((exD a) sq)), some (.d ((eL eB) marks_1))]) (Sm.op2 (calP (cnsP rfl (cnsP rfl (cnsP rfl (cnsP rfl (cnsP rfl (cnsP rfl nilE)))))) mkLP) h2 ixL) fun t_2 h3 =>
 (Tg.sret h3 (hT.rt rfl))))))))))
theorem s__law_tried (told_ : (List (Str × List (List Str)))) (picks_ : (Option (List Str))) : Sm False (oT2 (oD eS) (oO (oL (oD eS)))) (F__law_tried told_ picks_) (D__law_tried [(eL (eW (eL eS))) told_, (eO (eL eS)) picks_]) := Sm.run (a := 2) (n := 3) (F := B__law_tried) (ds := [(eL (eW (eL eS))) told_, (eO (eL eS)) picks_]) (ρ := [some (.d ((eL (eW (eL eS))) told_)), some (.d ((eO (eL eS)) picks_)), none]) rfl rfl fun T hT =>
 (Tg.one (Tg.tryQ (N := (fun (s_1 : Unit) (ρ : En) => ρ = [some (.d ((eL (eW (eL eS))) told_)), some (.d ((eO (eL eS)) picks_)), none])) (NX := (fun (s_ : Unit) (ρ : En) => ρ = [some (.d ((eL (eW (eL eS))) told_)), some (.d ((eO (eL eS)) picks_)), none])) (er := (fun r o _ => o = (oT2 (oD eS) (oO (oL (oD eS)))) r)) (fun TT7 hT7 s_ x_ ρ hN => by
 obtain rfl := hN
 exact (Tg.hdlCQ (Tg.suiteQ hT7 (n := some 2) (ΦN := fun (s_ : Unit) => [some (.d ((eL (eW (eL eS))) told_)), some (.d ((eO (eL eS)) picks_)), none]) (Φ := (oT2 (oD eS) (oO (oL (oD eS))))) (len := 3) (fun a sq hp_ TT8 hT8 => by
 rw [setQ_some]
 exact (Tg.nb (e := eS) (r1 := (fzE (call (nx0 (D__law_kind a (sq.map fun z : Addr × D => z.1) x_.c)) (consA (v 2) nilA))) [some (.d ((eL (eW (eL eS))) told_)), some (.d ((eO (eL eS)) picks_)), some (.d ((exD a) sq))]) (Sm.fzE zD (Sm.call0 (cnsP rfl nilE) (s__law_kind a sq x_.c))) fun t_5 h9 =>
 (Tg.nb (e := id) (r1 := (andT (tst (op2 eqD (fzE (call (nx0 (D__law_kind a (sq.map fun z : Addr × D => z.1) x_.c)) (consA (v 2) nilA))) (c (.str ("clash" : Str))))) (tst (op2 neD (op1 (pthX a (sq.map fun z : Addr × D => z.1)) (v 2)) (cal mkL nilA)))) [some (.d ((eL (eW (eL eS))) told_)), some (.d ((eO (eL eS)) picks_)), some (.d ((exD a) sq))]) (Sm.andT (tstE (op2E h9 rfl (eqP EqnS t_5 ("clash" : Str)))) (Sm.nb (e1 := eD) (r1 := (op1 (pthX a (sq.map fun z : Addr × D => z.1)) (v 2)) [some (.d ((eL (eW (eL eS))) told_)), some (.d ((eO (eL eS)) picks_)), some (.d ((exD a) sq))]) (pthXS hp_ rfl) fun t_6 h10 => (Sm.nb (e1 := (eL eS)) (r1 := (op1 (pthX a (sq.map fun z : Addr × D => z.1)) (v 2)) [some (.d ((eL (eW (eL eS))) told_)), some (.d ((eO (eL eS)) picks_)), some (.d ((exD a) sq))]) (Sm.dec h10 (fun _ h => (decL_ok decS_ok) h)) fun t_7 h11 => (Sm.p (tstE (op2E h11 (calP nilE mkLP) (neP (EqnL EqnS) t_7 ([] : (List Str))))))))) fun t_8 h12 =>
 (Tg.ite h12
 (Tg.sretX (disX_ok (oConsX (xF_ok rfl) (oConsX (xF_ok rfl) oNilX)) (tupO_ok)) (hT8.rt rfl))
 (Tg.nil (Tg.one (Tg.nb (e := eS) (r1 := (fzE (call (nx0 (D__law_kind a (sq.map fun z : Addr × D => z.1) x_.c)) (consA (v 2) nilA))) [some (.d ((eL (eW (eL eS))) told_)), some (.d ((eO (eL eS)) picks_)), some (.d ((exD a) sq))]) (Sm.fzE zD (Sm.call0 (cnsP rfl nilE) (s__law_kind a sq x_.c))) fun t_9 h13 =>
 (Tg.sretX (disX_ok (oConsX (xF_ok h13) (oConsX (xF_ok rfl) oNilX)) (tupO_ok)) (hT8.rt rfl))))))))) (fun s_ => rfl) (fun _ => rfl))
 (Tg.hdlNQ (hT7.X (hT.X _))))) (fun TT14 hT14 hdhT14 hhhT14 =>
 (Tg.ite (tstE (op1E rfl (isnO (fun _ => rfl) picks_)))
 (Tg.xretX2 (e := (oL (oD eS))) rfl (Sm.call (cnsP rfl nilE) (s_merged told_)) (fun x_ => hhhT14 _ _ _ rfl) fun r_ => (hT14.rt rfl))
 (Tg.nil (Tg.one (Tg.nb (e := (eL eS)) (r1 := (v 1) [some (.d ((eL (eW (eL eS))) told_)), some (.d ((eO (eL eS)) picks_)), none]) (Sm.get rfl) fun t_10 h15 =>
 (Tg.xretX2 (e := (oL (oD eS))) rfl (Sm.call (cnsP rfl (cnsP h15 nilE)) (s_settled told_ t_10)) (fun x_ => hhhT14 _ _ _ rfl) fun r_1 => (hT14.rt rfl))))))) (fun _ _ _ h => hT.rt h) (fun s_1 ρ hN => by
 obtain rfl := hN
 exact (Tg.bad _ _))))
theorem s__law_right (told_ : (List (Str × List (List Str)))) (picks_ : (Option (List Str))) (due_ : (Option (List Str))) : Sm False (oD eB) (F__law_right told_ picks_ due_) (D__law_right [(eL (eW (eL eS))) told_, (eO (eL eS)) picks_, (eO (eL eS)) due_]) := Sm.run (a := 3) (n := 5) (F := B__law_right) (ds := [(eL (eW (eL eS))) told_, (eO (eL eS)) picks_, (eO (eL eS)) due_]) (ρ := [some (.d ((eL (eW (eL eS))) told_)), some (.d ((eO (eL eS)) picks_)), some (.d ((eO (eL eS)) due_)), none, none]) rfl rfl fun T hT =>
 (Tg.ite (tstE (op1E rfl (isnO (fun _ => rfl) due_)))
 (Tg.nb (e := (eT2 eS (eO (eL eS)))) (r1 := (fzE (call (nx0 D__law_tried) (consA (v 0) (consA (v 1) nilA)))) [some (.d ((eL (eW (eL eS))) told_)), some (.d ((eO (eL eS)) picks_)), some (.d ((eO (eL eS)) due_)), none, none]) (Sm.fzE (zT2 zD (zO (zL zD))) (Sm.call0 (cnsP rfl (cnsP rfl nilE)) (s__law_tried told_ picks_))) fun t_ h1 =>
 (Tg.nb (e := eS) (r1 := (op2 ixD (cal mkL (consA (c (.str ("fit" : Str))) (consA (c (.str ("clash" : Str))) nilA))) (cal int1 (consA (op1 FL.isN (v 1)) nilA))) [some (.d ((eL (eW (eL eS))) told_)), some (.d ((eO (eL eS)) picks_)), some (.d ((eO (eL eS)) due_)), none, none]) (Sm.op2 (calP (cnsP rfl (cnsP rfl nilE)) mkLP) (calP (cnsP (op1E rfl (isnO (fun _ => rfl) picks_)) nilE) rfl) ixL) fun t_1 h2 =>
 (Tg.sret (op2E (op2E h1 rfl rfl) h2 (eqP EqnS t_.1 t_1)) (hT.rt rfl))))
 (Tg.nil (Tg.nb (e := (List.map eI)) (r1 := (itA rg1 (consA (c (.int 2)) nilA)) [some (.d ((eL (eW (eL eS))) told_)), some (.d ((eO (eL eS)) picks_)), some (.d ((eO (eL eS)) due_)), none, none]) (Sm.itA (e := List.map eI) (cnsP rfl nilE) wr1) fun t_2 h3 =>
 (Tg.lp (N := (fun (s_ : Unit) (ρ : En) => ρ = [some (.d ((eL (eW (eL eS))) told_)), some (.d ((eO (eL eS)) picks_)), some (.d ((eO (eL eS)) due_)), none, none])) (er := (fun r o _ => o = (oD eB) r)) (e := eI) h3 rfl (fun TT5 hT5 lap_ s_ ρ hN => by
 obtain rfl := hN
 exact ⟨_, rfl, (Tg.nb (e := (oT2 (oD eS) (oO (oL (oD eS))))) (r1 := (call (nx0 D__law_tried) (consA (v 0) (consA (v 1) nilA))) [some (.d ((eL (eW (eL eS))) told_)), some (.d ((eO (eL eS)) picks_)), some (.d ((eO (eL eS)) due_)), some (.d (eI lap_)), none]) (Sm.call0 (cnsP rfl (cnsP rfl nilE)) (s__law_tried told_ picks_)) fun found_ h6 =>
 (Tg.asgO1 h6 (Tg.ite (borQp (frD (frD (frD (frD (frO ((zT2 zD (zO (zL zD))) found_) fr0))))) (orQ (tstE (op2E (op2E rfl rfl rfl) rfl (neP EqnS found_.1 ("told" : Str)))) (orQ (notT_ok (tstE (op1E (op2E rfl rfl rfl) (isiO rfl (fun _ => rfl) found_.2)))) (tstE (op2E (op2E rfl rfl rfl) rfl (neP (EqnO (fun _ => ⟨rfl, rfl⟩) (EqnL EqnS)) found_.2 due_))))))
 (Tg.sret rfl (hT5.rt rfl))
 (Tg.nil (Tg.get fun found_1 hx_ => by
 rw [show (oT2 (oD eS) (oO (oL (oD eS)))) found_ = (oT2 (oD eS) (oL (oD eS))) (found_.1, found_1) by unfold oT2; rw [hx_]; rfl]
 exact (Tg.mutP (eo := (oD eS)) (eS := (oT2 (oD eS) (oL (oD eS)))) (st := fun l_ => .ok (found_.1, l_)) (m := snoc found_1 ("q" : Str)) rfl (pthT (s := 4) (j := 1) rfl (pthH (s := 4) rfl) rfl rfl rfl) (cnsP rfl nilE) (fun _ h => appP _ h) (fun _ _ h => by cases h; rfl) fun found_2 =>
 (Tg.fg (Tg.fg (hT5.nx rfl)))))))))⟩) (fun _ _ _ h => hT.rt h) (fun s_1 ρ hN => by
 obtain rfl := hN
 exact (Tg.fg (Tg.fg (Tg.one (Tg.sret rfl (hT.rt rfl))))))))))
theorem s_law (script_ : (List Int)) : Sm False (oD eB) (F_law script_) (D_law [eC script_]) := Sm.run (a := 1) (n := 14) (F := B_law) (ds := [eC script_]) (ρ := [some (.d (eC script_)), none, none, none, none, none, none, none, none, none, none, none, none, none]) rfl rfl fun T hT =>
 (Tg.nb (e := (eL (eL eS))) (r1 := (fzE (call (nx0 D__law_three) (consA (v 0) (consA (c (.int 0)) (consA (c (.int 6)) nilA))))) [some (.d (eC script_)), none, none, none, none, none, none, none, none, none, none, none, none, none]) (Sm.fzE (zL zD) (Sm.call0 (cnsP rfl (cnsP rfl (cnsP rfl nilE))) (s__law_three script_ 0 6))) fun rows_ h1 =>
 (Tg.asg1 h1 (Tg.nb (e := (eL eS)) (r1 := (op2 ixD (v 1) (c (.int 0))) [some (.d (eC script_)), some (.d ((eL (eL eS)) rows_)), none, none, none, none, none, none, none, none, none, none, none, none]) (Sm.op2 rfl rfl ixL) fun t_1 h2 =>
 (Tg.nb (e := (eL eS)) (r1 := (op2 ixD (v 1) (c (.int 1))) [some (.d (eC script_)), some (.d ((eL (eL eS)) rows_)), none, none, none, none, none, none, none, none, none, none, none, none]) (Sm.op2 rfl rfl ixL) fun t_2 h3 =>
 (Tg.nb (e := (eL eS)) (r1 := (op2 ixD (v 1) (c (.int 2))) [some (.d (eC script_)), some (.d ((eL (eL eS)) rows_)), none, none, none, none, none, none, none, none, none, none, none, none]) (Sm.op2 rfl rfl ixL) fun t_3 h4 =>
 (Tg.asgS (e := (eL (eW (eL eS)))) (id (Sm.fzE (zL zD) (Sm.call (cnsP h2 (cnsP h3 (cnsP h4 nilE))) (s_pieces t_1 t_2 t_3)))) (hT.X _) fun told_ =>
 (Tg.nb (e := (oL (oD (eW (eL eS))))) (r1 := (lcD [11] (it1 itQ (v 2)) (sN 11) yes (ofE (op2 addD (sli (v 11) noP (part (c (.int 1)))) (cal tupleD (consA (fzE (lcD [13] (it1 itQ (sli (v 11) (part (c (.int 1))) noP)) (sN 13) yes (cal listO (consA (v 13) nilA)))) nilA))))) [some (.d (eC script_)), some (.d ((eL (eL eS)) rows_)), some (.d ((eL (eW (eL eS))) told_)), none, none, none, none, none, none, none, none, none, none, none]) (Sm.comp (e := (eW (eL eS))) (eo := (oD (eW (eL eS)))) (it1E rfl (wkL told_)) fun piece_ => ⟨_, rfl, (Sm.p rfl), (Sm.nb (e1 := (eW (eL eS))) (r1 := (sli (v 11) noP (part (c (.int 1)))) [some (.d (eC script_)), some (.d ((eL (eL eS)) rows_)), some (.d ((eL (eW (eL eS))) told_)), none, none, none, none, none, none, none, none, some (.d ((eW (eL eS)) piece_)), none, none]) (Sm.sli rfl rfl (partP rfl) slWh) fun t_5 h6 => (Sm.nb (e1 := (eV (eL eS))) (r1 := (sli (v 11) (part (c (.int 1))) noP) [some (.d (eC script_)), some (.d ((eL (eL eS)) rows_)), some (.d ((eL (eW (eL eS))) told_)), none, none, none, none, none, none, none, none, some (.d ((eW (eL eS)) piece_)), none, none]) (Sm.sli rfl (partP rfl) rfl slWt) fun t_6 h7 => (Sm.nb (e1 := (eW (eL eS))) (r1 := (op2 addD (sli (v 11) noP (part (c (.int 1)))) (cal tupleD (consA (fzE (lcD [13] (it1 itQ (sli (v 11) (part (c (.int 1))) noP)) (sN 13) yes (cal listO (consA (v 13) nilA)))) nilA))) [some (.d (eC script_)), some (.d ((eL (eL eS)) rows_)), some (.d ((eL (eW (eL eS))) told_)), none, none, none, none, none, none, none, none, some (.d ((eW (eL eS)) piece_)), none, none]) (Sm.op2 (x := (eW (eL eS)) t_5) (y := (eV (eL eS)) (t_6.map fun (lines_ : (List Str)) => lines_)) h6 (calP (cnsP (fzP (zL (zL zD)) (compY (e := (eL eS)) (eo := (oL (oD eS))) (fun (lines_ : (List Str)) => lines_) (it1E h7 (wkV t_6)) fun lines_ => ⟨_, rfl, (calP (cnsP rfl nilE) (liL lines_))⟩)) nilE) (tuL (t_6.map fun (lines_ : (List Str)) => lines_))) caW) fun t_7 h8 => (Sm.p (ofP h8)))))⟩) fun kept_told_ h9 =>
 (Tg.asgO1 h9 (Tg.fz (i := 3) rfl ((zL zD) kept_told_) (Tg.asgO (e := (oL (oD (eW (eL eS))))) (t := (told_.filter fun (piece_1 : (Str × List (List Str))) => (decide (piece_1.1 = ("clash" : Str))))) (compF (e := (eW (eL eS))) (fun (piece_1 : (Str × List (List Str))) => (decide (piece_1.1 = ("clash" : Str)))) (it1E rfl (wkL told_)) fun piece_1 => ⟨_, rfl, (tstE (op2E (op2E rfl rfl (ixW0 piece_1)) rfl (eqP EqnS piece_1.1 ("clash" : Str)))), (ofP rfl)⟩) fun clashes_ =>
 (Tg.fz (i := 4) rfl ((zL zD) clashes_) (Tg.asg (e := eN) (t := ()) rfl fun due_ =>
 (Tg.jn (N := (fun (due_2 : (Option (List Str))) (ρ : En) => ρ = [some (.d (eC script_)), some (.d ((eL (eL eS)) rows_)), some (.d ((eL (eW (eL eS))) told_)), some (.d ((eL (eW (eL eS))) kept_told_)), some (.d ((eL (eW (eL eS))) clashes_)), some (.d ((eO (eL eS)) due_2)), none, none, none, none, none, none, none, none])) (fun TT11 hT11 => (Tg.ite1 (tstE (op2E (calP (cnsP rfl nilE) (lnL clashes_)) rfl (eqP EqnI (clashes_.length : Int) 0))) (Tg.one (Tg.nb (e := (eL eS)) (r1 := (fzE (call (nx0 D__law_settled) (consA (v 2) (consA (cal mkL nilA) nilA)))) [some (.d (eC script_)), some (.d ((eL (eL eS)) rows_)), some (.d ((eL (eW (eL eS))) told_)), some (.d ((eL (eW (eL eS))) kept_told_)), some (.d ((eL (eW (eL eS))) clashes_)), some (.d (eN due_)), none, none, none, none, none, none, none, none]) (Sm.fzE (zL zD) (Sm.call0 (cnsP rfl (cnsP (calP nilE mkLP) nilE)) (s__law_settled told_ ([] : (List Str))))) fun due_1 h12 =>
 (Tg.asg1 h12 (hT11.nx rfl)))) (hT11.nx rfl))) fun due_2 ρ hN => by
 obtain rfl := hN
 exact (Tg.nb (e := eB) (r1 := (fzE (call (nx0 D__law_right) (consA (v 2) (consA (c .non) (consA (v 5) nilA))))) [some (.d (eC script_)), some (.d ((eL (eL eS)) rows_)), some (.d ((eL (eW (eL eS))) told_)), some (.d ((eL (eW (eL eS))) kept_told_)), some (.d ((eL (eW (eL eS))) clashes_)), some (.d ((eO (eL eS)) due_2)), none, none, none, none, none, none, none, none]) (Sm.fzE zD (Sm.call0 (cnsP rfl (cnsP rfl (cnsP rfl nilE))) (s__law_right told_ none due_2))) fun t_10 h13 =>
 (Tg.ite (notT_ok (tstE h13))
 (Tg.sret rfl (hT.rt rfl))
 (Tg.nil (Tg.asg (e := (eL eS)) (t := [("old" : Str), ("one" : Str), ("other" : Str), ("one other" : Str), ("other one" : Str)]) (calP (cnsP rfl (cnsP rfl (cnsP rfl (cnsP rfl (cnsP rfl nilE))))) mkLP) fun words_ =>
 (Tg.nb (e := (List.map eI)) (r1 := (itA rg1 (consA (cal lenL (consA (v 4) nilA)) nilA)) [some (.d (eC script_)), some (.d ((eL (eL eS)) rows_)), some (.d ((eL (eW (eL eS))) told_)), some (.d ((eL (eW (eL eS))) kept_told_)), some (.d ((eL (eW (eL eS))) clashes_)), some (.d ((eO (eL eS)) due_2)), some (.d ((eL eS) words_)), none, none, none, none, none, none, none]) (Sm.itA (e := List.map eI) (cnsP (calP (cnsP rfl nilE) (lnL clashes_)) nilE) wr1) fun t_11 h14 =>
 (Tg.nb (e := (oL (oD eS))) (r1 := (lcD [12] (itA rg1 (consA (cal lenL (consA (v 4) nilA)) nilA)) (sN 12) yes (ofE (op2 ixD (v 6) (op2 modD (fzE (call (nx0 D__law_cell_at) (consA (v 0) (consA (op2 addD (c (.int 6)) (v 12)) nilA)))) (c (.int 5)))))) [some (.d (eC script_)), some (.d ((eL (eL eS)) rows_)), some (.d ((eL (eW (eL eS))) told_)), some (.d ((eL (eW (eL eS))) kept_told_)), some (.d ((eL (eW (eL eS))) clashes_)), some (.d ((eO (eL eS)) due_2)), some (.d ((eL eS) words_)), none, none, none, none, none, none, none]) (Sm.comp (e := eI) (eo := (oD eS)) h14 fun k_ => ⟨_, rfl, (Sm.p rfl), (Sm.nb (e1 := eI) (r1 := (fzE (call (nx0 D__law_cell_at) (consA (v 0) (consA (op2 addD (c (.int 6)) (v 12)) nilA)))) [some (.d (eC script_)), some (.d ((eL (eL eS)) rows_)), some (.d ((eL (eW (eL eS))) told_)), some (.d ((eL (eW (eL eS))) kept_told_)), some (.d ((eL (eW (eL eS))) clashes_)), some (.d ((eO (eL eS)) due_2)), some (.d ((eL eS) words_)), none, none, none, none, none, some (.d (eI k_)), none]) (Sm.fzE zD (Sm.call0 (cnsP rfl (cnsP (op2E rfl rfl rfl) nilE)) (s__law_cell_at script_ (6 + k_)))) fun t_12 h15 => (Sm.nb (e1 := eS) (r1 := (op2 ixD (v 6) (op2 modD (fzE (call (nx0 D__law_cell_at) (consA (v 0) (consA (op2 addD (c (.int 6)) (v 12)) nilA)))) (c (.int 5)))) [some (.d (eC script_)), some (.d ((eL (eL eS)) rows_)), some (.d ((eL (eW (eL eS))) told_)), some (.d ((eL (eW (eL eS))) kept_told_)), some (.d ((eL (eW (eL eS))) clashes_)), some (.d ((eO (eL eS)) due_2)), some (.d ((eL eS) words_)), none, none, none, none, none, some (.d (eI k_)), none]) (Sm.op2 rfl (op2E h15 rfl (ev_mod (by decide))) ixL) fun t_13 h16 => (Sm.p (ofP h16))))⟩) fun picks_ h17 =>
 (Tg.asgO1 h17 (Tg.nb (e := (oL (oD eS))) (r1 := (borO (call (nx0 D__law_settled) (consA (v 2) (consA (v 7) nilA)))) [some (.d (eC script_)), some (.d ((eL (eL eS)) rows_)), some (.d ((eL (eW (eL eS))) told_)), some (.d ((eL (eW (eL eS))) kept_told_)), some (.d ((eL (eW (eL eS))) clashes_)), some (.d ((eO (eL eS)) due_2)), some (.d ((eL eS) words_)), some ((oL (oD eS)) picks_), none, none, none, none, none, none]) (borS (flatL (fun _ => rfl)) (frD (frD (frD (frD (frD (frD (frD (frO ((zL zD) picks_) (frN (frN (frN (frN (frN (frN fr0)))))))))))))) (Sm.nb (e1 := (oL (oD eS))) (r1 := (call (nx0 D__law_settled) (consA (v 2) (consA (v 7) nilA))) [some (.d (eC script_)), some (.d ((eL (eL eS)) rows_)), some (.d ((eL (eW (eL eS))) told_)), some (.d ((eL (eW (eL eS))) kept_told_)), some (.d ((eL (eW (eL eS))) clashes_)), some (.d ((eO (eL eS)) due_2)), some (.d ((eL eS) words_)), some (.d ((eL eS) picks_)), none, none, none, none, none, none]) (Sm.call0 (cnsP rfl (cnsP rfl nilE)) (s__law_settled told_ picks_)) fun t_15 h18 => (Sm.p h18))) fun due_3 h19 =>
 (Tg.asg1 (fzP (zL zD) h19) (Tg.nb (e := eI) (r1 := (fzE (call (nx0 D__law_cell_at) (consA (v 0) (consA (c (.int 5)) nilA)))) [some (.d (eC script_)), some (.d ((eL (eL eS)) rows_)), some (.d ((eL (eW (eL eS))) told_)), some (.d ((eL (eW (eL eS))) kept_told_)), some (.d ((eL (eW (eL eS))) clashes_)), some (.d ((eL eS) due_3)), some (.d ((eL eS) words_)), some ((oL (oD eS)) picks_), none, none, none, none, none, none]) (Sm.fzE zD (Sm.call0 (cnsP rfl (cnsP rfl nilE)) (s__law_cell_at script_ 5))) fun t_17 h20 =>
 (Tg.asg (e := eI) (t := (t_17 % 4)) (op2E h20 rfl (ev_mod (by decide))) fun way_ =>
 (Tg.jn (N := (fun (s_ : ((Option (List Str)) × (List Str))) (ρ : En) => ρ = [some (.d (eC script_)), some (.d ((eL (eL eS)) rows_)), some (.d ((eL (eW (eL eS))) told_)), some (.d ((eL (eW (eL eS))) kept_told_)), some (.d ((eL (eW (eL eS))) clashes_)), some (.d ((eO (eL eS)) s_.1)), some (.d ((eL eS) words_)), some ((oL (oD eS)) s_.2), some (.d (eI way_)), none, none, none, none, none])) (fun TT24 hT24 => (Tg.ite1 (tstE (op2E rfl rfl (eqP EqnI way_ 1))) (Tg.fz (i := 7) rfl ((zL zD) picks_) (Tg.nb (e := (oL (oD eS))) (r1 := (op2O addO (v 7) (cal mkL (consA (c (.str ("one" : Str))) nilA))) [some (.d (eC script_)), some (.d ((eL (eL eS)) rows_)), some (.d ((eL (eW (eL eS))) told_)), some (.d ((eL (eW (eL eS))) kept_told_)), some (.d ((eL (eW (eL eS))) clashes_)), some (.d ((eL eS) due_3)), some (.d ((eL eS) words_)), some (.d ((eL eS) picks_)), some (.d (eI way_)), none, none, none, none, none]) (Sm.op2O (x := (eL eS) picks_) (y := (eL eS) [("one" : Str)]) rfl (calP (cnsP rfl nilE) mkLP) caO) fun t_18 h25 =>
 (Tg.nb (e := (oL (oD eS))) (r1 := (op2O addO (sli (v 7) (part (c (.int 1))) noP) (sli (cal mkL (consA (c (.str ("both" : Str))) (consA (c (.str ("One" : Str))) (consA (c (.str ("" : Str))) (consA (c (.str ("one one" : Str))) (consA (c (.str ("other old" : Str))) nilA)))))) noP (part (c (.int 1))))) [some (.d (eC script_)), some (.d ((eL (eL eS)) rows_)), some (.d ((eL (eW (eL eS))) told_)), some (.d ((eL (eW (eL eS))) kept_told_)), some (.d ((eL (eW (eL eS))) clashes_)), some (.d ((eL eS) due_3)), some (.d ((eL eS) words_)), some (.d ((eL eS) picks_)), some (.d (eI way_)), none, none, none, none, none]) (Sm.op2O (x := (eL eS) (cutL picks_ (some 1) none)) (y := (eL eS) (cutL [("both" : Str), ("One" : Str), ("" : Str), ("one one" : Str), ("other old" : Str)] none (some 1))) (sliP rfl (partP rfl) rfl (slL picks_ _ _)) (sliP (calP (cnsP rfl (cnsP rfl (cnsP rfl (cnsP rfl (cnsP rfl nilE))))) mkLP) rfl (partP rfl) (slL [("both" : Str), ("One" : Str), ("" : Str), ("one one" : Str), ("other old" : Str)] _ _)) caO) fun t_19 h26 =>
 (Tg.nb (e := (oL (oD eS))) (r1 := (pickO (disL (consO (op2O addO (v 7) (cal mkL (consA (c (.str ("one" : Str))) nilA))) (consO (op2O addO (sli (v 7) (part (c (.int 1))) noP) (sli (cal mkL (consA (c (.str ("both" : Str))) (consA (c (.str ("One" : Str))) (consA (c (.str ("" : Str))) (consA (c (.str ("one one" : Str))) (consA (c (.str ("other old" : Str))) nilA)))))) noP (part (c (.int 1))))) nilO))) (op2 modD (cal lenL (consA (v 7) nilA)) (c (.int 2)))) [some (.d (eC script_)), some (.d ((eL (eL eS)) rows_)), some (.d ((eL (eW (eL eS))) told_)), some (.d ((eL (eW (eL eS))) kept_told_)), some (.d ((eL (eW (eL eS))) clashes_)), some (.d ((eL eS) due_3)), some (.d ((eL eS) words_)), some (.d ((eL eS) picks_)), some (.d (eI way_)), none, none, none, none, none]) (Sm.pick (consOE h25 (consOE h26 nilOE)) (op2E (calP (cnsP rfl nilE) (lnL picks_)) rfl (ev_mod (by decide)))) fun picks_1 h27 =>
 (Tg.asgO1 h27 (Tg.one (Tg.asg (e := eN) (t := ()) rfl fun due_4 =>
 (hT24.nx rfl)))))))) (hT24.nx rfl))) fun s_ ρ hN => by
 obtain rfl := hN
 exact (Tg.jn (N := (fun (s_1 : ((Option (List Str)) × (List Str))) (ρ : En) => ρ = [some (.d (eC script_)), some (.d ((eL (eL eS)) rows_)), some (.d ((eL (eW (eL eS))) told_)), some (.d ((eL (eW (eL eS))) kept_told_)), some (.d ((eL (eW (eL eS))) clashes_)), some (.d ((eO (eL eS)) s_1.1)), some (.d ((eL eS) words_)), some ((oL (oD eS)) s_1.2), some (.d (eI way_)), none, none, none, none, none])) (fun TT28 hT28 => (Tg.ite1 (borQp (frD (frD (frD (frD (frD (frD (frD (frO ((zL zD) s_.2) (frD (frN (frN (frN (frN (frN fr0)))))))))))))) (andQ (tstE (op2E rfl rfl (eqP EqnI way_ 3))) (tstE (op2E (calP (cnsP rfl nilE) (lnL s_.2)) rfl rfl)))) (Tg.fz (i := 7) rfl ((zL zD) s_.2) (Tg.asgO (e := (oL (oD eS))) (t := (cutL s_.2 (some 1) none)) (sliOP rfl (partP rfl) rfl (slLO s_.2 _ _)) fun picks_2 =>
 (Tg.one (Tg.asg (e := eN) (t := ()) rfl fun due_5 =>
 (hT28.nx rfl))))) (hT28.nx rfl))) fun s_1 ρ hN => by
 obtain rfl := hN
 exact (Tg.jn (N := (fun (s_2 : ((Option (List Str)) × (List Str))) (ρ : En) => ∃ (j_ : Option OT), ρ = [some (.d (eC script_)), some (.d ((eL (eL eS)) rows_)), some (.d ((eL (eW (eL eS))) told_)), some (.d ((eL (eW (eL eS))) kept_told_)), some (.d ((eL (eW (eL eS))) clashes_)), some (.d ((eO (eL eS)) s_2.1)), some (.d ((eL eS) words_)), some ((oL (oD eS)) s_2.2), some (.d (eI way_)), none, j_, none, none, none])) (fun TT34 hT34 => (Tg.ite1 (borQp (frD (frD (frD (frD (frD (frD (frD (frO ((zL zD) s_1.2) (frD (frN (frN (frN (frN (frN fr0)))))))))))))) (andQ (tstE (op2E rfl rfl (eqP EqnI way_ 2))) (tstE (op2E (calP (cnsP rfl nilE) (lnL s_1.2)) rfl rfl)))) (Tg.nb (e := eI) (r1 := (bor (op2 modD (fzE (call (nx0 D__law_cell_at) (consA (v 0) (consA (c (.int 13)) nilA)))) (cal lenL (consA (v 7) nilA)))) [some (.d (eC script_)), some (.d ((eL (eL eS)) rows_)), some (.d ((eL (eW (eL eS))) told_)), some (.d ((eL (eW (eL eS))) kept_told_)), some (.d ((eL (eW (eL eS))) clashes_)), some (.d ((eO (eL eS)) s_1.1)), some (.d ((eL eS) words_)), some ((oL (oD eS)) s_1.2), some (.d (eI way_)), none, none, none, none, none]) (borP (fun _ => rfl) (frD (frD (frD (frD (frD (frD (frD (frO ((zL zD) s_1.2) (frD (frN (frN (frN (frN (frN fr0)))))))))))))) (Sm.nb (e1 := eI) (r1 := (fzE (call (nx0 D__law_cell_at) (consA (v 0) (consA (c (.int 13)) nilA)))) [some (.d (eC script_)), some (.d ((eL (eL eS)) rows_)), some (.d ((eL (eW (eL eS))) told_)), some (.d ((eL (eW (eL eS))) kept_told_)), some (.d ((eL (eW (eL eS))) clashes_)), some (.d ((eO (eL eS)) s_1.1)), some (.d ((eL eS) words_)), some (.d ((eL eS) s_1.2)), some (.d (eI way_)), none, none, none, none, none]) (Sm.fzE zD (Sm.call0 (cnsP rfl (cnsP rfl nilE)) (s__law_cell_at script_ 13))) fun t_21 h35 => (Sm.nb (e1 := eI) (r1 := (op2 modD (fzE (call (nx0 D__law_cell_at) (consA (v 0) (consA (c (.int 13)) nilA)))) (cal lenL (consA (v 7) nilA))) [some (.d (eC script_)), some (.d ((eL (eL eS)) rows_)), some (.d ((eL (eW (eL eS))) told_)), some (.d ((eL (eW (eL eS))) kept_told_)), some (.d ((eL (eW (eL eS))) clashes_)), some (.d ((eO (eL eS)) s_1.1)), some (.d ((eL eS) words_)), some (.d ((eL eS) s_1.2)), some (.d (eI way_)), none, none, none, none, none]) (Sm.op2 h35 (calP (cnsP rfl nilE) (lnL s_1.2)) moI) fun t_22 h36 => (Sm.p h36)))) fun at_ h37 =>
 (Tg.asg1 h37 (Tg.nb (e := eI) (r1 := (fzE (call (nx0 D__law_cell_at) (consA (v 0) (consA (c (.int 14)) nilA)))) [some (.d (eC script_)), some (.d ((eL (eL eS)) rows_)), some (.d ((eL (eW (eL eS))) told_)), some (.d ((eL (eW (eL eS))) kept_told_)), some (.d ((eL (eW (eL eS))) clashes_)), some (.d ((eO (eL eS)) s_1.1)), some (.d ((eL eS) words_)), some ((oL (oD eS)) s_1.2), some (.d (eI way_)), none, some (.d (eI at_)), none, none, none]) (Sm.fzE zD (Sm.call0 (cnsP rfl (cnsP rfl nilE)) (s__law_cell_at script_ 14))) fun t_24 h38 =>
 (Tg.nb (e := eS) (r1 := (op2 ixD (cal mkL (consA (c (.str ("both" : Str))) (consA (c (.str ("One" : Str))) (consA (c (.str ("" : Str))) (consA (c (.str ("one one" : Str))) (consA (c (.str ("old " : Str))) (consA (c (.str ("other old" : Str))) nilA))))))) (op2 modD (fzE (call (nx0 D__law_cell_at) (consA (v 0) (consA (c (.int 14)) nilA)))) (c (.int 6)))) [some (.d (eC script_)), some (.d ((eL (eL eS)) rows_)), some (.d ((eL (eW (eL eS))) told_)), some (.d ((eL (eW (eL eS))) kept_told_)), some (.d ((eL (eW (eL eS))) clashes_)), some (.d ((eO (eL eS)) s_1.1)), some (.d ((eL eS) words_)), some ((oL (oD eS)) s_1.2), some (.d (eI way_)), none, some (.d (eI at_)), none, none, none]) (Sm.op2 (calP (cnsP rfl (cnsP rfl (cnsP rfl (cnsP rfl (cnsP rfl (cnsP rfl nilE)))))) mkLP) (op2E h38 rfl (ev_mod (by decide))) ixL) fun t_25 h39 =>
 (Tg.putL (e := eS) (x := t_25) rfl h39 rfl fun picks_3 =>
 (Tg.one (Tg.asg (e := eN) (t := ()) rfl fun due_6 =>
 (hT34.nx ⟨_, rfl⟩)))))))) (hT34.nx ⟨_, rfl⟩))) fun s_2 ρ hN => by
 obtain ⟨j_, rfl⟩ := hN
 exact (Tg.fg (Tg.fz (i := 7) rfl ((zL zD) s_2.2) (Tg.asg (e := (eL eS)) (t := s_2.2) (fzP (zL zD) (calP (cnsP rfl nilE) (liL s_2.2))) fun handed_ =>
 (Tg.one (Tg.nb (e := eB) (r1 := (fzE (call (nx0 D__law_right) (consA (v 2) (consA (v 9) (consA (v 5) nilA))))) [some (.d (eC script_)), some (.d ((eL (eL eS)) rows_)), some (.d ((eL (eW (eL eS))) told_)), some (.d ((eL (eW (eL eS))) kept_told_)), some (.d ((eL (eW (eL eS))) clashes_)), some (.d ((eO (eL eS)) s_2.1)), some (.d ((eL eS) words_)), some (.d ((eL eS) s_2.2)), some (.d (eI way_)), some (.d ((eL eS) handed_)), none, none, none, none]) (Sm.fzE zD (Sm.call0 (cnsP rfl (cnsP rfl (cnsP rfl nilE))) (s__law_right told_ (some handed_) s_2.1))) fun t_26 h40 =>
 (Tg.sret (andP h40 (andP (op2E rfl rfl (eqP (EqnL EqnS) handed_ s_2.2)) (op2E rfl rfl (eqP (EqnL (EqnW (EqnL EqnS))) told_ kept_told_)))) (hT.rt rfl))))))))))))))))))))))))))))))))))
theorem law_true (ns : List Int) (h63 : ns.length ≤ 63) : D_law [.scr ns] = .ok (.d (.bl true)) := by
 have h := s_law ns
 rw [F_law_true] at h
 exact h
def topS (i : Nat) : Stmt := PySem.Challenge.pw_pasthall_k33_merged_and_settled.main.body.getD i (.Pass ⟨0, 0, 0, 0⟩)
abbrev st_is_line : Stmt := topS 13
abbrev N_is_line : List Str := [("line" : Str), ("sign" : Str)]
abbrev st_is_row : Stmt := topS 14
abbrev N_is_row : List Str := [("row" : Str), ("line" : Str)]
abbrev st_check_row : Stmt := topS 15
abbrev N_check_row : List Str := [("row" : Str)]
abbrev st_has_clash : Stmt := topS 17
abbrev N_has_clash : List Str := [("told" : Str), ("piece" : Str)]
abbrev st_as_row : Stmt := topS 18
abbrev N_as_row : List Str := [("lines" : Str)]
abbrev st_merged_lines : Stmt := topS 19
abbrev N_merged_lines : List Str := [("told" : Str), ("found" : Str), ("piece" : Str)]
abbrev st_merged : Stmt := topS 20
abbrev N_merged : List Str := [("told" : Str)]
abbrev st_picked : Stmt := topS 21
abbrev N_picked : List Str := [("piece" : Str), ("pick" : Str), ("old" : Str), ("mine" : Str), ("theirs" : Str)]
abbrev st_settled : Stmt := topS 22
abbrev N_settled : List Str := [("told" : Str), ("picks" : Str), ("left" : Str), ("found" : Str), ("piece" : Str)]
abbrev st_check_two : Stmt := topS 24
abbrev N_check_two : List Str := [("old" : Str), ("new" : Str)]
abbrev st_most_kept : Stmt := topS 25
abbrev N_most_kept : List Str := [("old" : Str), ("new" : Str), ("table" : Str), ("i" : Str), ("j" : Str), ("line" : Str), ("place" : Str)]
abbrev st_first_pair : Stmt := topS 26
abbrev N_first_pair : List Str := [("old" : Str), ("new" : Str), ("table" : Str), ("i" : Str), ("j" : Str), ("one" : Str), ("other" : Str)]
abbrev st_kept_by : Stmt := topS 27
abbrev N_kept_by : List Str := [("old" : Str), ("new" : Str), ("table" : Str), ("found" : Str), ("i" : Str), ("j" : Str), ("pair" : Str)]
abbrev st_kept : Stmt := topS 28
abbrev N_kept : List Str := [("old" : Str), ("new" : Str)]
abbrev st_held : Stmt := topS 30
abbrev N_held : List Str := [("base" : Str), ("one" : Str), ("other" : Str), ("theirs" : Str), ("i" : Str), ("j" : Str)]
abbrev st_add_same : Stmt := topS 31
abbrev N_add_same : List Str := [("found" : Str), ("lines" : Str)]
abbrev st_add_stretch : Stmt := topS 32
abbrev N_add_stretch : List Str := [("found" : Str), ("old" : Str), ("mine" : Str), ("theirs" : Str)]
abbrev st_pieces : Stmt := topS 33
abbrev N_pieces : List Str := [("base" : Str), ("one" : Str), ("other" : Str), ("row" : Str), ("found" : Str), ("a" : Str), ("b" : Str), ("c" : Str), ("i" : Str), ("j" : Str), ("k" : Str)]
abbrev st__law_cell_at : Stmt := topS 35
abbrev N__law_cell_at : List Str := [("script" : Str), ("k" : Str)]
abbrev st__law_next : Stmt := topS 36
abbrev N__law_next : List Str := [("seed" : Str)]
abbrev st__law_row : Stmt := topS 37
abbrev N__law_row : List Str := [("cell" : Str), ("most" : Str), ("row" : Str), ("many" : Str), ("k" : Str)]
abbrev st__law_changed : Stmt := topS 38
abbrev N__law_changed : List Str := [("row" : Str), ("cell" : Str), ("most" : Str), ("found" : Str), ("k" : Str), ("seed" : Str), ("at" : Str), ("way" : Str)]
abbrev st__law_three : Stmt := topS 39
abbrev N__law_three : List Str := [("script" : Str), ("at" : Str), ("most" : Str), ("base" : Str), ("rows" : Str), ("k" : Str), ("cell" : Str)]
abbrev st__law_kind : Stmt := topS 40
abbrev N__law_kind : List Str := [("e" : Str), ("marks" : Str)]
abbrev st__law_settled : Stmt := topS 41
abbrev N__law_settled : List Str := [("told" : Str), ("picks" : Str), ("left" : Str), ("row" : Str), ("piece" : Str), ("lines" : Str), ("some" : Str), ("word" : Str)]
abbrev st__law_tried : Stmt := topS 42
abbrev N__law_tried : List Str := [("told" : Str), ("picks" : Str), ("e" : Str)]
abbrev st__law_right : Stmt := topS 43
abbrev N__law_right : List Str := [("told" : Str), ("picks" : Str), ("due" : Str), ("lap" : Str), ("found" : Str)]
abbrev st_law : Stmt := topS 44
abbrev N_law : List Str := [("script" : Str), ("rows" : Str), ("told" : Str), ("kept_told" : Str), ("clashes" : Str), ("due" : Str), ("words" : Str), ("picks" : Str), ("way" : Str), ("handed" : Str), ("at" : Str), ("piece" : Str), ("k" : Str), ("lines" : Str)]
abbrev st_Clash___init__ : Stmt := methS (topS 8) 0
structure Tx (K : PySem.W.Frag) (mg : Str → Option Value) : Prop where
 b_ValueError : mg "ValueError" = none
 b_all : mg "all" = none
 b_any : mg "any" = none
 b_dict : mg "dict" = none
 b_int : mg "int" = none
 b_isinstance : mg "isinstance" = none
 b_len : mg "len" = none
 b_list : mg "list" = none
 b_max : mg "max" = none
 b_range : mg "range" = none
 b_tuple : mg "tuple" = none
 c_LETTERS : ∃ t, mg "LETTERS" = some (.str ("abcdefghijklmnopqrstuvwxyz" : Str) t)
 c_MOST_LINES : ∃ t, mg "MOST_LINES" = some (.int 40 t)
 c_MOST_SIGNS : ∃ t, mg "MOST_SIGNS" = some (.int 8 t)
 exk : ExK K mg exT exS
 xfk : XfK K mg exT
 x_Clash : InP K mg "Clash" "Clash.__init__" st_Clash___init__
 r_BadRow : Rz K mg "BadRow"
 r_NoFit : Rz K mg "NoFit"
 d_is_line : Dn K mg "is_line" st_is_line [("line" : Str)]
 d_is_row : Dn K mg "is_row" st_is_row [("row" : Str)]
 d_check_row : Dn K mg "check_row" st_check_row [("row" : Str)]
 d_has_clash : Dn K mg "has_clash" st_has_clash [("told" : Str)]
 d_as_row : Dn K mg "as_row" st_as_row [("lines" : Str)]
 d_merged_lines : Dn K mg "merged_lines" st_merged_lines [("told" : Str)]
 d_merged : Dn K mg "merged" st_merged [("told" : Str)]
 d_picked : Dn K mg "picked" st_picked [("piece" : Str), ("pick" : Str)]
 d_settled : Dn K mg "settled" st_settled [("told" : Str), ("picks" : Str)]
 d_check_two : Dn K mg "check_two" st_check_two [("old" : Str), ("new" : Str)]
 d_most_kept : Dn K mg "most_kept" st_most_kept [("old" : Str), ("new" : Str)]
 d_first_pair : Dn K mg "first_pair" st_first_pair [("old" : Str), ("new" : Str), ("table" : Str), ("i" : Str), ("j" : Str)]
 d_kept_by : Dn K mg "kept_by" st_kept_by [("old" : Str), ("new" : Str)]
 d_kept : Dn K mg "kept" st_kept [("old" : Str), ("new" : Str)]
 d_held : Dn K mg "held" st_held [("base" : Str), ("one" : Str), ("other" : Str)]
 d_add_same : Dn K mg "add_same" st_add_same [("found" : Str), ("lines" : Str)]
 d_add_stretch : Dn K mg "add_stretch" st_add_stretch [("found" : Str), ("old" : Str), ("mine" : Str), ("theirs" : Str)]
 d_pieces : Dn K mg "pieces" st_pieces [("base" : Str), ("one" : Str), ("other" : Str)]
 d__law_cell_at : Dn K mg "_law_cell_at" st__law_cell_at [("script" : Str), ("k" : Str)]
 d__law_next : Dn K mg "_law_next" st__law_next [("seed" : Str)]
 d__law_row : Dn K mg "_law_row" st__law_row [("cell" : Str), ("most" : Str)]
 d__law_changed : Dn K mg "_law_changed" st__law_changed [("row" : Str), ("cell" : Str), ("most" : Str)]
 d__law_three : Dn K mg "_law_three" st__law_three [("script" : Str), ("at" : Str), ("most" : Str)]
 d__law_kind : Dn K mg "_law_kind" st__law_kind [("e" : Str)]
 d__law_settled : Dn K mg "_law_settled" st__law_settled [("told" : Str), ("picks" : Str)]
 d__law_tried : Dn K mg "_law_tried" st__law_tried [("told" : Str), ("picks" : Str)]
 d__law_right : Dn K mg "_law_right" st__law_right [("told" : Str), ("picks" : Str), ("due" : Str)]
 d_law : Dn K mg "law" st_law [("script" : Str)]
theorem sc_Clash___init__ : FnScope [("self" : Str), ("paths" : Str)] [("self" : Str), ("paths" : Str)] (defScope st_Clash___init__) := ⟨rfl, rfl, rfl, by decide +kernel, rfl, by decide +kernel, by decide +kernel⟩
section
variable {P : Program} {w : World} {K : PySem.W.Frag} {mg : Str → Option Value} {base : Heap}
theorem sc_is_line : FnScope N_is_line [("line" : Str)] (defScope st_is_line) := ⟨rfl, rfl, rfl, by decide +kernel, rfl, by decide +kernel, by decide +kernel⟩
set_option maxHeartbeats 4000000 in
theorem ok_is_line (T : Tx K mg) : Cal P w K mg base CX0 False "is_line" 1 D_is_line := by
 have hnd := sc_is_line.nd
 obtain ⟨f, fd, Fn, hm, hk, hb⟩ := T.d_is_line.ex
 exact ⟨f, fd, _, fn0 Fn sc_is_line (fun cdv A outer s H E hr => (SS.one (S1.ret (EF.and (EF.cmp (EC.op (le_ok (hu64 hr)) (EF.callB len_ok T.b_len (by decide +kernel) (EA.cons (EF.var 0) EA.nil)) (EF.gI T.c_MOST_SIGNS))) (EF.one (EF.callB (all_ok rfl) T.b_all (by decide +kernel) (EA.cons (EF.ofO (EO.lc (own := [(("sign" : Str), 1)]) rfl hnd (EI.sq (EF.var 0)) (blkOk_by (N := N_is_line) (sc := defScope st_is_line) (by decide +kernel)) (fun _ _ _ _ _ => (EG.nm 1 hnd)) (fun _ _ _ _ _ => ETs.nil) (fun _ _ _ _ _ => (EO.ofF (EF.cmp (EC.op (inK_ok (hu65 hr)) (EF.var 1) (EF.gS T.c_LETTERS (by decide +kernel)))))))) EA.nil))))))), hm, hk, hb⟩
theorem sc_is_row : FnScope N_is_row [("row" : Str)] (defScope st_is_row) := ⟨rfl, rfl, rfl, by decide +kernel, rfl, by decide +kernel, by decide +kernel⟩
set_option maxHeartbeats 4000000 in
theorem ok_is_row (T : Tx K mg) : Cal P w K mg base CX0 False "is_row" 2 D_is_row := by
 have K_is_line := ok_is_line (P := P) (w := w) (base := base) T
 have hnd := sc_is_row.nd
 obtain ⟨f, fd, Fn, hm, hk, hb⟩ := T.d_is_row.ex
 exact ⟨f, fd, _, fn0 Fn sc_is_row (fun cdv A outer s H E hr => (SS.one (S1.ret (EF.and (EF.cmp (EC.op (le_ok (hu64 hr)) (EF.callB len_ok T.b_len (by decide +kernel) (EA.cons (EF.var 0) EA.nil)) (EF.gI T.c_MOST_LINES))) (EF.one (EF.callB (all_ok rfl) T.b_all (by decide +kernel) (EA.cons (EF.ofO (EO.lc (own := [(("line" : Str), 1)]) rfl hnd (EI.sq (EF.var 0)) (blkOk_by (N := N_is_row) (sc := defScope st_is_row) (by decide +kernel)) (fun _ _ _ _ _ => (EG.nm 1 hnd)) (fun _ _ _ _ _ => ETs.nil) (fun _ _ _ _ _ => (EO.call0 K_is_line (hr.mono (by decide)) (EA.cons (EF.var 1) EA.nil))))) EA.nil))))))), hm, hk, hb⟩
theorem sc_check_row : FnScope N_check_row [("row" : Str)] (defScope st_check_row) := ⟨rfl, rfl, rfl, by decide +kernel, rfl, by decide +kernel, by decide +kernel⟩
set_option maxHeartbeats 4000000 in
theorem ok_check_row (T : Tx K mg) : Cal P w K mg base (L2N.CX P w) True "check_row" 3 D_check_row := by
 have K_is_row := ok_is_row (P := P) (w := w) (base := base) T
 have hnd := sc_check_row.nd
 obtain ⟨f, fd, Fn, hm, hk, hb⟩ := T.d_check_row.ex
 exact ⟨f, fd, _, fnX Fn sc_check_row (fun cdv A outer s H E hr => (SS.one (S1.ite (ET.not (ET.v (EF.ofO (EO.call0 K_is_row (hr.mono (by decide)) (EA.cons (EF.var 0) EA.nil)))))
 (SS.one (S1.raise rfl (L2N.takes_of rfl rfl rfl rfl) T.r_BadRow))
 SS.nil))), hm, hk, hb⟩
theorem sc_has_clash : FnScope N_has_clash [("told" : Str)] (defScope st_has_clash) := ⟨rfl, rfl, rfl, by decide +kernel, rfl, by decide +kernel, by decide +kernel⟩
set_option maxHeartbeats 4000000 in
theorem ok_has_clash (T : Tx K mg) : Cal P w K mg base CX0 False "has_clash" 1 D_has_clash := by
 have hnd := sc_has_clash.nd
 obtain ⟨f, fd, Fn, hm, hk, hb⟩ := T.d_has_clash.ex
 exact ⟨f, fd, _, fn0 Fn sc_has_clash (fun cdv A outer s H E hr => (SS.one (S1.ret (EF.callB (any_ok rfl) T.b_any (by decide +kernel) (EA.cons (EF.ofO (EO.lc (own := [(("piece" : Str), 1)]) rfl hnd (EI.sq (EF.var 0)) (blkOk_by (N := N_has_clash) (sc := defScope st_has_clash) (by decide +kernel)) (fun _ _ _ _ _ => (EG.nm 1 hnd)) (fun _ _ _ _ _ => ETs.nil) (fun _ _ _ _ _ => (EO.ofF (EF.cmp (EC.op (eq_ok (hu64 hr)) (EF.ix (hu64 hr) (EF.var 1) EF.int) EF.str)))))) EA.nil))))), hm, hk, hb⟩
theorem sc_as_row : FnScope N_as_row [("lines" : Str)] (defScope st_as_row) := ⟨rfl, rfl, rfl, by decide +kernel, rfl, by decide +kernel, by decide +kernel⟩
set_option maxHeartbeats 4000000 in
theorem ok_as_row (T : Tx K mg) : CalG P w K mg base (L2N.CX P w) True "as_row" 4 [false] D_as_row := by
 have K_check_row := ok_check_row (P := P) (w := w) (base := base) T
 have hnd := sc_as_row.nd
 obtain ⟨f, fd, Fn, hm, hk, hb⟩ := T.d_as_row.ex
 exact ⟨f, fd, _, fnGX [false] Fn sc_as_row (by decide) (fun cdv A outer s H E hr => (SS.cons (S1.drop (EF.ofO (EO.bor (EO.call K_check_row (hr.mono (by decide)) (fun σ => L2N.passAt (L2N.takes_of rfl rfl rfl rfl) σ) (fun _ => trivial) (EA.cons (EF.var 0) EA.nil)))))
 (SS.one (S1.retM 0)))), hm, hk, hb⟩
theorem sc_merged_lines : FnScope N_merged_lines [("told" : Str)] (defScope st_merged_lines) := ⟨rfl, rfl, rfl, by decide +kernel, rfl, by decide +kernel, by decide +kernel⟩
set_option maxHeartbeats 4000000 in
theorem ok_merged_lines (T : Tx K mg) : Cal P w K mg base CX0 False "merged_lines" 1 D_merged_lines := by
 have hnd := sc_merged_lines.nd
 obtain ⟨f, fd, Fn, hm, hk, hb⟩ := T.d_merged_lines.ex
 exact ⟨f, fd, _, fn0 Fn sc_merged_lines (fun cdv A outer s H E hr => (SS.cons (S1.asgO 1 (EO.lst EA.nil) hnd)
 (SS.cons (S1.for (vs := [2]) PassesOwn.never rfl (EI.sq (EF.var 0)) (EG.nm 2 hnd)
 (SS.cons (S1.ext 1 (EF.ix (hu64 hr) (EF.var 2) (EF.un neg_ok EF.int)))
 (SS.fg 2 SS.nil)))
 (SS.fg 2 (SS.one (S1.retM 1)))))), hm, hk, hb⟩
theorem sc_merged : FnScope N_merged [("told" : Str)] (defScope st_merged) := ⟨rfl, rfl, rfl, by decide +kernel, rfl, by decide +kernel, by decide +kernel⟩
set_option maxHeartbeats 4000000 in
theorem ok_merged (T : Tx K mg) : Cal P w K mg base (L2N.CX P w) True "merged" 5 D_merged := by
 have K_has_clash := ok_has_clash (P := P) (w := w) (base := base) T
 have K_as_row := ok_as_row (P := P) (w := w) (base := base) T
 have K_merged_lines := ok_merged_lines (P := P) (w := w) (base := base) T
 have hnd := sc_merged.nd
 obtain ⟨f, fd, Fn, hm, hk, hb⟩ := T.d_merged.ex
 exact ⟨f, fd, _, fnX Fn sc_merged (fun cdv A outer s H E hr => (SS.cons (S1.ite (ET.v (EF.ofO (EO.call0 K_has_clash (hr.mono (by decide)) (EA.cons (EF.var 0) EA.nil))))
 (SS.one (S1.raiseP rfl (L2N.takes_of rfl rfl rfl rfl) (T.x_Clash.exc sc_Clash___init__ rfl (.inl rfl) (.inl rfl)) (hr.mono (by decide)) (EF.lst EA.nil)))
 SS.nil)
 (SS.one (S1.retX (EX.callG K_as_row (hr.mono (by decide)) (fun σ => L2N.passAt (L2N.takes_of rfl rfl rfl rfl) σ) (fun _ => trivial) (EXA.cons (EX.ofO (EO.call0 K_merged_lines (hr.mono (by decide)) (EA.cons (EF.var 0) EA.nil))) EXA.nil)))))), hm, hk, hb⟩
theorem sc_picked : FnScope N_picked [("piece" : Str), ("pick" : Str)] (defScope st_picked) := ⟨rfl, rfl, rfl, by decide +kernel, rfl, by decide +kernel, by decide +kernel⟩
set_option maxHeartbeats 4000000 in
theorem ok_picked (T : Tx K mg) : Cal P w K mg base (L2N.CX P w) True "picked" 1 D_picked := by
 have hnd := sc_picked.nd
 obtain ⟨f, fd, Fn, hm, hk, hb⟩ := T.d_picked.ex
 exact ⟨f, fd, _, fnX Fn sc_picked (fun cdv A outer s H E hr => (SS.cons (S1.tgt (vs := [2, 3, 4]) (EF.sli (EF.var 0) (EP'.p1 EF.int) EP'.p0) (EG.tup rfl (EGs.cons (EG.nm 2 hnd) (EGs.cons (EG.nm 3 hnd) (EGs.cons (EG.nm 4 hnd) EGs.nil)))))
 (SS.cons (S1.ite (ET.c (EC.op (eq_ok (hu64 hr)) (EF.var 1) EF.str))
 (SS.one (S1.ret (EF.var 2)))
 SS.nil)
 (SS.cons (S1.ite (ET.c (EC.op (eq_ok (hu64 hr)) (EF.var 1) EF.str))
 (SS.one (S1.ret (EF.var 3)))
 SS.nil)
 (SS.cons (S1.ite (ET.c (EC.op (eq_ok (hu64 hr)) (EF.var 1) EF.str))
 (SS.one (S1.ret (EF.var 4)))
 SS.nil)
 (SS.cons (S1.ite (ET.c (EC.op (eq_ok (hu64 hr)) (EF.var 1) EF.str))
 (SS.one (S1.ret (EF.bin add_ok (EF.var 3) (EF.var 4))))
 SS.nil)
 (SS.cons (S1.ite (ET.c (EC.op (eq_ok (hu64 hr)) (EF.var 1) EF.str))
 (SS.one (S1.ret (EF.bin add_ok (EF.var 4) (EF.var 3))))
 SS.nil)
 (SS.one (S1.raise rfl (L2N.takes_of rfl rfl rfl rfl) T.r_NoFit))))))))), hm, hk, hb⟩
theorem sc_settled : FnScope N_settled [("told" : Str), ("picks" : Str)] (defScope st_settled) := ⟨rfl, rfl, rfl, by decide +kernel, rfl, by decide +kernel, by decide +kernel⟩
set_option maxHeartbeats 4000000 in
theorem ok_settled (T : Tx K mg) : Cal P w K mg base (L2N.CX P w) True "settled" 5 D_settled := by
 have K_as_row := ok_as_row (P := P) (w := w) (base := base) T
 have K_picked := ok_picked (P := P) (w := w) (base := base) T
 have hnd := sc_settled.nd
 obtain ⟨f, fd, Fn, hm, hk, hb⟩ := T.d_settled.ex
 exact ⟨f, fd, _, fnX Fn sc_settled (fun cdv A outer s H E hr => (SS.cons (S1.ite (ET.c (EC.op (ne_ok (hu64 hr)) (EF.callB len_ok T.b_len (by decide +kernel) (EA.cons (EF.var 1) EA.nil)) (EF.callB len_ok T.b_len (by decide +kernel) (EA.cons (EF.ofO (EO.lc (own := [(("piece" : Str), 4)]) rfl hnd (EI.sq (EF.var 0)) (blkOk_by (N := N_settled) (sc := defScope st_settled) (by decide +kernel)) (fun _ _ _ _ _ => (EG.nm 4 hnd)) (fun _ _ _ _ _ => (ETs.one (ET.c (EC.op (eq_ok (hu64 hr)) (EF.ix (hu64 hr) (EF.var 4) EF.int) EF.str)))) (fun _ _ _ _ _ => (EO.ofF (EF.var 4))))) EA.nil))))
 (SS.one (S1.raise rfl (L2N.takes_of rfl rfl rfl rfl) T.r_NoFit))
 SS.nil)
 (SS.cons (S1.asgO 2 (EO.callT list_ok T.b_list (by decide +kernel) (EA.cons (EF.var 1) EA.nil)) hnd)
 (SS.cons (S1.asgO 3 (EO.lst EA.nil) hnd)
 (SS.cons (S1.for (vs := [4]) (passes_of rfl) rfl (EI.sq (EF.var 0)) (EG.nm 4 hnd)
 (SS.cons (S1.ite (ET.c (EC.op (eq_ok (hu64 hr)) (EF.ix (hu64 hr) (EF.var 4) EF.int) EF.str))
 (SS.one (S1.extX 3 (EX.callD K_picked (hr.mono (by decide)) (fun σ => L2N.passAt (L2N.takes_of rfl rfl rfl rfl) σ) (fun _ => trivial) (EXA.cons (EX.ofF (EF.var 4)) (EXA.cons (EX.mt popAt_mtG PySem.F.plainAttrs_list PySem.F.slot_list_pop PySem.F.type_list_pop (EP.nm 2) (EXA.cons (EX.ofF EF.int) EXA.nil)) EXA.nil)))))
 (SS.one (S1.ext 3 (EF.ix (hu64 hr) (EF.var 4) (EF.un neg_ok EF.int)))))
 (SS.fg 4 SS.nil)))
 (SS.fg 4 (SS.one (S1.retX (EX.callG K_as_row (hr.mono (by decide)) (fun σ => L2N.passAt (L2N.takes_of rfl rfl rfl rfl) σ) (fun _ => trivial) (EXA.cons (EX.mv 3) EXA.nil)))))))))), hm, hk, hb⟩
theorem sc_check_two : FnScope N_check_two [("old" : Str), ("new" : Str)] (defScope st_check_two) := ⟨rfl, rfl, rfl, by decide +kernel, rfl, by decide +kernel, by decide +kernel⟩
set_option maxHeartbeats 4000000 in
theorem ok_check_two (T : Tx K mg) : Cal P w K mg base (L2N.CX P w) True "check_two" 4 D_check_two := by
 have K_check_row := ok_check_row (P := P) (w := w) (base := base) T
 have hnd := sc_check_two.nd
 obtain ⟨f, fd, Fn, hm, hk, hb⟩ := T.d_check_two.ex
 exact ⟨f, fd, _, fnX Fn sc_check_two (fun cdv A outer s H E hr => (SS.cons (S1.drop (EF.ofO (EO.call K_check_row (hr.mono (by decide)) (fun σ => L2N.passAt (L2N.takes_of rfl rfl rfl rfl) σ) (fun _ => trivial) (EA.cons (EF.var 0) EA.nil))))
 (SS.one (S1.drop (EF.ofO (EO.call K_check_row (hr.mono (by decide)) (fun σ => L2N.passAt (L2N.takes_of rfl rfl rfl rfl) σ) (fun _ => trivial) (EA.cons (EF.var 1) EA.nil))))))), hm, hk, hb⟩
theorem sc_most_kept : FnScope N_most_kept [("old" : Str), ("new" : Str)] (defScope st_most_kept) := ⟨rfl, rfl, rfl, by decide +kernel, rfl, by decide +kernel, by decide +kernel⟩
set_option maxHeartbeats 4000000 in
theorem ok_most_kept (T : Tx K mg) : Cal P w K mg base CX0 False "most_kept" 1 D_most_kept := by
 have hnd := sc_most_kept.nd
 obtain ⟨f, fd, Fn, hm, hk, hb⟩ := T.d_most_kept.ex
 exact ⟨f, fd, _, fn0 Fn sc_most_kept (fun cdv A outer s H E hr => (SS.cons (S1.lc (own := [(("line" : Str), 5)]) 2 rfl hnd (EI.rg1 T.b_range (EA.cons (EF.bin add_ok (EF.callB len_ok T.b_len (by decide +kernel) (EA.cons (EF.var 0) EA.nil)) EF.int) EA.nil)) (blkOk_by (N := N_most_kept) (sc := defScope st_most_kept) (by decide +kernel)) (fun _ _ _ _ _ => (EG.nm 5 hnd)) (fun _ _ _ _ _ => ETs.nil) (fun _ _ _ _ _ => (EO.lc (own := [(("place" : Str), 6)]) rfl hnd (EI.rg1 T.b_range (EA.cons (EF.bin add_ok (EF.callB len_ok T.b_len (by decide +kernel) (EA.cons (EF.var 1) EA.nil)) EF.int) EA.nil)) (blk_in (N := N_most_kept) (sc0 := defScope st_most_kept) rfl (by decide +kernel)) (fun _ _ _ _ _ => (EG.nm 6 hnd)) (fun _ _ _ _ _ => ETs.nil) (fun _ _ _ _ _ => (EO.ofF EF.int)))) (sw_true rfl rfl rfl (by decide +kernel)))
 (SS.cons (S1.for (vs := [3]) PassesOwn.never rfl (EI.rg3 T.b_range (EA.cons (EF.bin sub_ok (EF.callB len_ok T.b_len (by decide +kernel) (EA.cons (EF.var 0) EA.nil)) EF.int) (EA.cons (EF.un neg_ok EF.int) (EA.cons (EF.un neg_ok EF.int) EA.nil)))) (EG.nm 3 hnd)
 (SS.cons (S1.for (vs := [4]) PassesOwn.never rfl (EI.rg3 T.b_range (EA.cons (EF.bin sub_ok (EF.callB len_ok T.b_len (by decide +kernel) (EA.cons (EF.var 1) EA.nil)) EF.int) (EA.cons (EF.un neg_ok EF.int) (EA.cons (EF.un neg_ok EF.int) EA.nil)))) (EG.nm 4 hnd)
 (SS.cons (S1.setLL 2 (EF.callB (max2_ok rfl) T.b_max (by decide +kernel) (EA.cons (EF.oix2 2 (EF.bin add_ok (EF.var 3) EF.int) (EF.var 4)) (EA.cons (EF.oix2 2 (EF.var 3) (EF.bin add_ok (EF.var 4) EF.int)) EA.nil))) (EF.var 3) (EF.var 4))
 (SS.cons (S1.ite (ET.c (EC.op (eq_ok (hu64 hr)) (EF.ix (hu64 hr) (EF.var 0) (EF.var 3)) (EF.ix (hu64 hr) (EF.var 1) (EF.var 4))))
 (SS.one (S1.setLL 2 (EF.callB (max2_ok rfl) T.b_max (by decide +kernel) (EA.cons (EF.oix2 2 (EF.var 3) (EF.var 4)) (EA.cons (EF.bin add_ok (EF.oix2 2 (EF.bin add_ok (EF.var 3) EF.int) (EF.bin add_ok (EF.var 4) EF.int)) EF.int) EA.nil))) (EF.var 3) (EF.var 4)))
 SS.nil)
 (SS.fg 4 SS.nil))))
 (SS.fg 3 (SS.fg 4 SS.nil))))
 (SS.fg 3 (SS.fg 4 (SS.one (S1.retM 2))))))), hm, hk, hb⟩
theorem sc_first_pair : FnScope N_first_pair [("old" : Str), ("new" : Str), ("table" : Str), ("i" : Str), ("j" : Str)] (defScope st_first_pair) := ⟨rfl, rfl, rfl, by decide +kernel, rfl, by decide +kernel, by decide +kernel⟩
set_option maxHeartbeats 4000000 in
theorem ok_first_pair (T : Tx K mg) : Cal P w K mg base CX0 False "first_pair" 1 D_first_pair := by
 have hnd := sc_first_pair.nd
 obtain ⟨f, fd, Fn, hm, hk, hb⟩ := T.d_first_pair.ex
 exact ⟨f, fd, _, fn0 Fn sc_first_pair (fun cdv A outer s H E hr => (SS.cons (S1.for (vs := [5]) PassesOwn.never rfl (EI.rg2 T.b_range (EA.cons (EF.var 3) (EA.cons (EF.callB len_ok T.b_len (by decide +kernel) (EA.cons (EF.var 0) EA.nil)) EA.nil))) (EG.nm 5 hnd)
 (SS.cons (S1.for (vs := [6]) PassesOwn.never rfl (EI.rg2 T.b_range (EA.cons (EF.var 4) (EA.cons (EF.callB len_ok T.b_len (by decide +kernel) (EA.cons (EF.var 1) EA.nil)) EA.nil))) (EG.nm 6 hnd)
 (SS.cons (S1.ite (EW.t (ET.and (ET.c (EC.op (eq_ok (hu64 hr)) (EF.ix (hu64 hr) (EF.var 0) (EF.var 5)) (EF.ix (hu64 hr) (EF.var 1) (EF.var 6)))) (ET.and1 (ET.c (EC.op (eq_ok (hu64 hr)) (EF.bin add_ok (EF.ix (hu64 hr) (EF.ix (hu64 hr) (EF.var 2) (EF.bin add_ok (EF.var 5) EF.int)) (EF.bin add_ok (EF.var 6) EF.int)) EF.int) (EF.ix (hu64 hr) (EF.ix (hu64 hr) (EF.var 2) (EF.var 3)) (EF.var 4)))))))
 (SS.one (S1.ret (EF.tup (EA.cons (EF.var 5) (EA.cons (EF.var 6) EA.nil)))))
 SS.nil)
 (SS.fg 6 SS.nil)))
 (SS.fg 5 (SS.fg 6 SS.nil))))
 (SS.fg 5 (SS.fg 6 (SS.one (S1.ret EF.non)))))), hm, hk, hb⟩
theorem sc_kept_by : FnScope N_kept_by [("old" : Str), ("new" : Str)] (defScope st_kept_by) := ⟨rfl, rfl, rfl, by decide +kernel, rfl, by decide +kernel, by decide +kernel⟩
set_option maxHeartbeats 4000000 in
theorem ok_kept_by (T : Tx K mg) : Cal P w K mg base CX0 False "kept_by" 2 D_kept_by := by
 have K_most_kept := ok_most_kept (P := P) (w := w) (base := base) T
 have K_first_pair := ok_first_pair (P := P) (w := w) (base := base) T
 have hnd := sc_kept_by.nd
 obtain ⟨f, fd, Fn, hm, hk, hb⟩ := T.d_kept_by.ex
 exact ⟨f, fd, _, fn0 Fn sc_kept_by (fun cdv A outer s H E hr => (SS.cons (S1.asg 2 (EF.ofO (EO.call0 K_most_kept (hr.mono (by decide)) (EA.cons (EF.var 0) (EA.cons (EF.var 1) EA.nil)))) hnd)
 (SS.cons (S1.asgO 3 (EO.lst EA.nil) hnd)
 (SS.cons (S1.asg 4 EF.int hnd)
 (SS.cons (S1.asg 5 EF.int hnd)
 (SS.cons (S1.while PassesOwn.never (ET.c (EC.op (gt_ok (hu64 hr)) (EF.ix (hu64 hr) (EF.ix (hu64 hr) (EF.var 2) (EF.var 4)) (EF.var 5)) EF.int))
 (SS.cons (S1.asg 6 (EF.ofO (EO.call0 K_first_pair (hr.mono (by decide)) (EA.cons (EF.var 0) (EA.cons (EF.var 1) (EA.cons (EF.var 2) (EA.cons (EF.var 4) (EA.cons (EF.var 5) EA.nil))))))) hnd)
 (SS.cons (S1.app 3 (EF.var 6))
 (SS.cons (S1.asg 4 (EF.bin add_ok (EF.ix (hu64 hr) (EF.var 6) EF.int) EF.int) hnd)
 (SS.cons (S1.asg 5 (EF.bin add_ok (EF.ix (hu64 hr) (EF.var 6) EF.int) EF.int) hnd)
 (SS.fg 6 SS.nil))))))
 (SS.fg 4 (SS.fg 5 (SS.fg 6 (SS.one (S1.retM 3))))))))))), hm, hk, hb⟩
theorem sc_kept : FnScope N_kept [("old" : Str), ("new" : Str)] (defScope st_kept) := ⟨rfl, rfl, rfl, by decide +kernel, rfl, by decide +kernel, by decide +kernel⟩
set_option maxHeartbeats 4000000 in
theorem ok_kept (T : Tx K mg) : Cal P w K mg base (L2N.CX P w) True "kept" 5 D_kept := by
 have K_check_two := ok_check_two (P := P) (w := w) (base := base) T
 have K_kept_by := ok_kept_by (P := P) (w := w) (base := base) T
 have hnd := sc_kept.nd
 obtain ⟨f, fd, Fn, hm, hk, hb⟩ := T.d_kept.ex
 exact ⟨f, fd, _, fnX Fn sc_kept (fun cdv A outer s H E hr => (SS.cons (S1.drop (EF.ofO (EO.call K_check_two (hr.mono (by decide)) (fun σ => L2N.passAt (L2N.takes_of rfl rfl rfl rfl) σ) (fun _ => trivial) (EA.cons (EF.var 0) (EA.cons (EF.var 1) EA.nil)))))
 (SS.one (S1.retO (EO.call0 K_kept_by (hr.mono (by decide)) (EA.cons (EF.var 0) (EA.cons (EF.var 1) EA.nil))))))), hm, hk, hb⟩
theorem sc_held : FnScope N_held [("base" : Str), ("one" : Str), ("other" : Str)] (defScope st_held) := ⟨rfl, rfl, rfl, by decide +kernel, rfl, by decide +kernel, by decide +kernel⟩
set_option maxHeartbeats 4000000 in
theorem ok_held (T : Tx K mg) : Cal P w K mg base (L2N.CX P w) True "held" 6 D_held := by
 have K_kept := ok_kept (P := P) (w := w) (base := base) T
 have hnd := sc_held.nd
 obtain ⟨f, fd, Fn, hm, hk, hb⟩ := T.d_held.ex
 exact ⟨f, fd, _, fnX Fn sc_held (fun cdv A outer s H E hr => (SS.cons (S1.asg 3 (EF.ofO (EO.callT (dict_ok rfl) T.b_dict (by decide +kernel) (EA.cons (EF.ofO (EO.call K_kept (hr.mono (by decide)) (fun σ => L2N.passAt (L2N.takes_of rfl rfl rfl rfl) σ) (fun _ => trivial) (EA.cons (EF.var 0) (EA.cons (EF.var 2) EA.nil)))) EA.nil))) hnd)
 (SS.one (S1.retO (EO.lc (own := [(("i" : Str), 4), (("j" : Str), 5)]) rfl hnd (EI.sq (EF.ofO (EO.call K_kept (hr.mono (by decide)) (fun σ => L2N.passAt (L2N.takes_of rfl rfl rfl rfl) σ) (fun _ => trivial) (EA.cons (EF.var 0) (EA.cons (EF.var 1) EA.nil))))) (blkOk_by (N := N_held) (sc := defScope st_held) (by decide +kernel)) (fun _ _ _ _ _ => (EG.tup rfl (EGs.cons (EG.nm 4 hnd) (EGs.cons (EG.nm 5 hnd) EGs.nil)))) (fun _ _ _ _ _ => (ETs.one (ET.c (EC.op (inK_ok (hu65 hr)) (EF.var 4) (EF.var 3))))) (fun _ _ _ _ _ => (EO.ofF (EF.tup (EA.cons (EF.var 4) (EA.cons (EF.var 5) (EA.cons (EF.ix (hu64 hr) (EF.var 3) (EF.var 4)) EA.nil))))))))))), hm, hk, hb⟩
theorem sc_add_same : FnScope N_add_same [("found" : Str), ("lines" : Str)] (defScope st_add_same) := ⟨rfl, rfl, rfl, by decide +kernel, rfl, by decide +kernel, by decide +kernel⟩
set_option maxHeartbeats 4000000 in
theorem ok_add_same (T : Tx K mg) : CalG P w K mg base CX0 False "add_same" 1 [true, false] D_add_same := by
 have hnd := sc_add_same.nd
 obtain ⟨f, fd, Fn, hm, hk, hb⟩ := T.d_add_same.ex
 exact ⟨f, fd, _, fnG0 [true, false] Fn sc_add_same (by decide) (fun cdv A outer s H E hr => (SS.cons (S1.ite (ET.c (EC.op (eq_ok (hu64 hr)) (EF.callB len_ok T.b_len (by decide +kernel) (EA.cons (EF.var 1) EA.nil)) EF.int))
 (SS.one S1.retN)
 SS.nil)
 (SS.cons (S1.ite (ET.bor (EW.t (ET.and (ET.c (EC.op (gt_ok (hu64 hr)) (EF.callB len_ok T.b_len (by decide +kernel) (EA.cons (EF.var 0) EA.nil)) EF.int)) (ET.and1 (ET.c (EC.op (eq_ok (hu64 hr)) (EF.ix (hu64 hr) (EF.ix (hu64 hr) (EF.var 0) (EF.un neg_ok EF.int)) EF.int) EF.str))))))
 (SS.one (S1.asgX 1 (EX.bin2 add_ok (EX.ix (hu64 hr) (EX.mt0 pop_mtG PySem.F.plainAttrs_list PySem.F.slot_list_pop PySem.F.type_list_pop (EP.nm 0)) EF.int) (EX.ofF (EF.var 1))) hnd))
 SS.nil)
 (SS.one (S1.app 0 (EF.tup (EA.cons EF.str (EA.cons (EF.ofO (EO.callT list_ok T.b_list (by decide +kernel) (EA.cons (EF.var 1) EA.nil))) EA.nil)))))))), hm, hk, hb⟩
theorem sc_add_stretch : FnScope N_add_stretch [("found" : Str), ("old" : Str), ("mine" : Str), ("theirs" : Str)] (defScope st_add_stretch) := ⟨rfl, rfl, rfl, by decide +kernel, rfl, by decide +kernel, by decide +kernel⟩
set_option maxHeartbeats 4000000 in
theorem ok_add_stretch (T : Tx K mg) : CalG P w K mg base CX0 False "add_stretch" 2 [true, false, false, false] D_add_stretch := by
 have K_add_same := ok_add_same (P := P) (w := w) (base := base) T
 have hnd := sc_add_stretch.nd
 obtain ⟨f, fd, Fn, hm, hk, hb⟩ := T.d_add_stretch.ex
 exact ⟨f, fd, _, fnG0 [true, false, false, false] Fn sc_add_stretch (by decide) (fun cdv A outer s H E hr => (SS.one (S1.ite (EW.t (ET.and (ET.c (EC.op (eq_ok (hu64 hr)) (EF.var 1) (EF.var 2))) (ET.and1 (ET.c (EC.op (eq_ok (hu64 hr)) (EF.var 1) (EF.var 3))))))
 (SS.one (S1.dropX (EX.callG0 K_add_same (hr.mono (by decide)) (EXA.lend 0 (EP.nm 0) (EXA.cons (EX.ofF (EF.var 1)) EXA.nil)))))
 (SS.one (S1.ite (ET.c (EC.op (eq_ok (hu64 hr)) (EF.var 1) (EF.var 2)))
 (SS.one (S1.app 0 (EF.tup (EA.cons EF.str (EA.cons (EF.var 1) (EA.cons (EF.var 3) EA.nil))))))
 (SS.one (S1.ite (ET.c (EC.op (eq_ok (hu64 hr)) (EF.var 1) (EF.var 3)))
 (SS.one (S1.app 0 (EF.tup (EA.cons EF.str (EA.cons (EF.var 1) (EA.cons (EF.var 2) EA.nil))))))
 (SS.one (S1.ite (ET.c (EC.op (eq_ok (hu64 hr)) (EF.var 2) (EF.var 3)))
 (SS.one (S1.app 0 (EF.tup (EA.cons EF.str (EA.cons (EF.var 1) (EA.cons (EF.var 2) EA.nil))))))
 (SS.one (S1.app 0 (EF.tup (EA.cons EF.str (EA.cons (EF.var 1) (EA.cons (EF.var 2) (EA.cons (EF.var 3) EA.nil)))))))))))))))), hm, hk, hb⟩
theorem sc_pieces : FnScope N_pieces [("base" : Str), ("one" : Str), ("other" : Str)] (defScope st_pieces) := ⟨rfl, rfl, rfl, by decide +kernel, rfl, by decide +kernel, by decide +kernel⟩
set_option maxHeartbeats 4000000 in
theorem ok_pieces (T : Tx K mg) : Cal P w K mg base (L2N.CX P w) True "pieces" 7 D_pieces := by
 have K_held := ok_held (P := P) (w := w) (base := base) T
 have K_add_stretch := ok_add_stretch (P := P) (w := w) (base := base) T
 have K_check_row := ok_check_row (P := P) (w := w) (base := base) T
 have K_add_same := ok_add_same (P := P) (w := w) (base := base) T
 have hnd := sc_pieces.nd
 obtain ⟨f, fd, Fn, hm, hk, hb⟩ := T.d_pieces.ex
 exact ⟨f, fd, _, fnX Fn sc_pieces (fun cdv A outer s H E hr => (SS.cons (S1.for (vs := [3]) (passes_of rfl) rfl (EI.sq (EF.tup (EA.cons (EF.var 0) (EA.cons (EF.var 1) (EA.cons (EF.var 2) EA.nil))))) (EG.nm 3 hnd)
 (SS.cons (S1.drop (EF.ofO (EO.call K_check_row (hr.mono (by decide)) (fun σ => L2N.passAt (L2N.takes_of rfl rfl rfl rfl) σ) (fun _ => trivial) (EA.cons (EF.var 3) EA.nil))))
 (SS.fg 3 SS.nil)))
 (SS.fg 3 (SS.cons (S1.asgO 4 (EO.lst EA.nil) hnd)
 (SS.cons (S1.tgt (vs := [5, 6, 7]) (EF.tup (EA.cons EF.int (EA.cons EF.int (EA.cons EF.int EA.nil)))) (EG.tup rfl (EGs.cons (EG.nm 5 hnd) (EGs.cons (EG.nm 6 hnd) (EGs.cons (EG.nm 7 hnd) EGs.nil)))))
 (SS.cons (S1.for (vs := [8, 9, 10]) (passes_of rfl) rfl (EI.sq (EF.ofO (EO.call K_held (hr.mono (by decide)) (fun σ => L2N.passAt (L2N.takes_of rfl rfl rfl rfl) σ) (fun _ => trivial) (EA.cons (EF.var 0) (EA.cons (EF.var 1) (EA.cons (EF.var 2) EA.nil)))))) (EG.tup rfl (EGs.cons (EG.nm 8 hnd) (EGs.cons (EG.nm 9 hnd) (EGs.cons (EG.nm 10 hnd) EGs.nil))))
 (SS.cons (S1.dropX (EX.callG0 K_add_stretch (hr.mono (by decide)) (EXA.lend 4 (EP.nm 4) (EXA.cons (EX.ofF (EF.sli (EF.var 0) (EP'.p1 (EF.var 5)) (EP'.p1 (EF.var 8)))) (EXA.cons (EX.ofF (EF.sli (EF.var 1) (EP'.p1 (EF.var 6)) (EP'.p1 (EF.var 9)))) (EXA.cons (EX.ofF (EF.sli (EF.var 2) (EP'.p1 (EF.var 7)) (EP'.p1 (EF.var 10)))) EXA.nil))))))
 (SS.cons (S1.dropX (EX.callG0 K_add_same (hr.mono (by decide)) (EXA.lend 4 (EP.nm 4) (EXA.cons (EX.ofF (EF.lst (EA.cons (EF.ix (hu64 hr) (EF.var 0) (EF.var 8)) EA.nil))) EXA.nil))))
 (SS.cons (S1.par3 5 6 7 (EO.ofF (EF.bin add_ok (EF.var 8) EF.int)) (EO.ofF (EF.bin add_ok (EF.var 9) EF.int)) (EO.ofF (EF.bin add_ok (EF.var 10) EF.int)) hnd)
 (SS.fg 8 (SS.fg 9 (SS.fg 10 SS.nil)))))))
 (SS.fg 8 (SS.fg 9 (SS.fg 10 (SS.cons (S1.dropX (EX.callG0 K_add_stretch (hr.mono (by decide)) (EXA.lend 4 (EP.nm 4) (EXA.cons (EX.ofF (EF.sli (EF.var 0) (EP'.p1 (EF.var 5)) EP'.p0)) (EXA.cons (EX.ofF (EF.sli (EF.var 1) (EP'.p1 (EF.var 6)) EP'.p0)) (EXA.cons (EX.ofF (EF.sli (EF.var 2) (EP'.p1 (EF.var 7)) EP'.p0)) EXA.nil))))))
 (SS.one (S1.retM 4)))))))))))), hm, hk, hb⟩
theorem sc__law_cell_at : FnScope N__law_cell_at [("script" : Str), ("k" : Str)] (defScope st__law_cell_at) := ⟨rfl, rfl, rfl, by decide +kernel, rfl, by decide +kernel, by decide +kernel⟩
set_option maxHeartbeats 4000000 in
theorem ok__law_cell_at (T : Tx K mg) : Cal P w K mg base CX0 False "_law_cell_at" 1 D__law_cell_at := by
 have hnd := sc__law_cell_at.nd
 obtain ⟨f, fd, Fn, hm, hk, hb⟩ := T.d__law_cell_at.ex
 exact ⟨f, fd, _, fn0 Fn sc__law_cell_at (fun cdv A outer s H E hr => (SS.cons (S1.ite (ET.c (EC.op (lt_ok (hu64 hr)) (EF.var 1) (EF.callB len_ok T.b_len (by decide +kernel) (EA.cons (EF.var 0) EA.nil))))
 (SS.one (S1.ret (EF.ix (hu64 hr) (EF.var 0) (EF.var 1))))
 SS.nil)
 (SS.one (S1.ret EF.int)))), hm, hk, hb⟩
theorem sc__law_next : FnScope N__law_next [("seed" : Str)] (defScope st__law_next) := ⟨rfl, rfl, rfl, by decide +kernel, rfl, by decide +kernel, by decide +kernel⟩
set_option maxHeartbeats 4000000 in
theorem ok__law_next (T : Tx K mg) : Cal P w K mg base CX0 False "_law_next" 1 D__law_next := by
 have hnd := sc__law_next.nd
 obtain ⟨f, fd, Fn, hm, hk, hb⟩ := T.d__law_next.ex
 exact ⟨f, fd, _, fn0 Fn sc__law_next (fun cdv A outer s H E hr => (SS.cons (S1.asg 0 (EF.bin mod_ok (EF.bin add_ok (EF.var 0) EF.int) EF.int) hnd)
 (SS.one (S1.ret (EF.bin mod_ok (EF.bin add_ok (EF.bin add_ok (EF.bin mul_ok (EF.var 0) (EF.var 0)) (EF.bin mul_ok EF.int (EF.var 0))) EF.int) EF.int))))), hm, hk, hb⟩
theorem sc__law_row : FnScope N__law_row [("cell" : Str), ("most" : Str)] (defScope st__law_row) := ⟨rfl, rfl, rfl, by decide +kernel, rfl, by decide +kernel, by decide +kernel⟩
set_option maxHeartbeats 4000000 in
theorem ok__law_row (T : Tx K mg) : Cal P w K mg base CX0 False "_law_row" 1 D__law_row := by
 have hnd := sc__law_row.nd
 obtain ⟨f, fd, Fn, hm, hk, hb⟩ := T.d__law_row.ex
 exact ⟨f, fd, _, fn0 Fn sc__law_row (fun cdv A outer s H E hr => (SS.cons (S1.asgO 2 (EO.lst EA.nil) hnd)
 (SS.cons (S1.asg 3 (EF.bin mod_ok (EF.var 0) (EF.bin add_ok (EF.var 1) EF.int)) hnd)
 (SS.cons (S1.asg 0 (EF.bin fdiv_ok (EF.var 0) (EF.bin add_ok (EF.var 1) EF.int)) hnd)
 (SS.cons (S1.for (vs := [4]) PassesOwn.never rfl (EI.rg1 T.b_range (EA.cons (EF.var 3) EA.nil)) (EG.nm 4 hnd)
 (SS.cons (S1.app 2 (EF.ix (hu64 hr) EF.str (EF.bin mod_ok (EF.var 0) EF.int)))
 (SS.cons (S1.asg 0 (EF.bin fdiv_ok (EF.var 0) EF.int) hnd)
 (SS.fg 4 SS.nil))))
 (SS.fg 0 (SS.fg 4 (SS.one (S1.retM 2))))))))), hm, hk, hb⟩
theorem sc__law_changed : FnScope N__law_changed [("row" : Str), ("cell" : Str), ("most" : Str)] (defScope st__law_changed) := ⟨rfl, rfl, rfl, by decide +kernel, rfl, by decide +kernel, by decide +kernel⟩
set_option maxHeartbeats 4000000 in
theorem ok__law_changed (T : Tx K mg) : Cal P w K mg base CX0 False "_law_changed" 2 D__law_changed := by
 have K__law_next := ok__law_next (P := P) (w := w) (base := base) T
 have hnd := sc__law_changed.nd
 obtain ⟨f, fd, Fn, hm, hk, hb⟩ := T.d__law_changed.ex
 exact ⟨f, fd, _, fn0 Fn sc__law_changed (fun cdv A outer s H E hr => (SS.cons (S1.asg 3 (EF.ofO (EO.callT list_ok T.b_list (by decide +kernel) (EA.cons (EF.var 0) EA.nil))) hnd)
 (SS.cons (S1.for (vs := [4]) PassesOwn.never rfl (EI.rg1 T.b_range (EA.cons (EF.bin mod_ok (EF.var 1) EF.int) EA.nil)) (EG.nm 4 hnd)
 (SS.cons (S1.asg 5 (EF.ofO (EO.call0 K__law_next (hr.mono (by decide)) (EA.cons (EF.bin add_ok (EF.ofO (EO.call0 K__law_next (hr.mono (by decide)) (EA.cons (EF.bin add_ok (EF.bin mod_ok (EF.var 1) EF.int) (EF.bin mul_ok EF.int (EF.var 4))) EA.nil))) EF.int) EA.nil))) hnd)
 (SS.cons (S1.asg 6 (EF.bin mod_ok (EF.bin fdiv_ok (EF.var 5) EF.int) (EF.bin add_ok (EF.callB len_ok T.b_len (by decide +kernel) (EA.cons (EF.var 3) EA.nil)) EF.int)) hnd)
 (SS.cons (S1.asg 7 (EF.bin mod_ok (EF.bin fdiv_ok (EF.var 5) EF.int) EF.int) hnd)
 (SS.cons (S1.ite (ET.c (EC.op (eq_ok (hu64 hr)) (EF.var 7) EF.int))
 (SS.one (S1.asg 3 (EF.bin add_ok (EF.bin add_ok (EF.sli (EF.var 3) EP'.p0 (EP'.p1 (EF.var 6))) (EF.lst (EA.cons (EF.ix (hu64 hr) EF.str (EF.bin mod_ok (EF.bin fdiv_ok (EF.var 5) EF.int) EF.int)) EA.nil))) (EF.sli (EF.var 3) (EP'.p1 (EF.var 6)) EP'.p0)) hnd))
 SS.nil)
 (SS.cons (S1.ite (ET.c (EC.op (eq_ok (hu64 hr)) (EF.var 7) EF.int))
 (SS.one (S1.asg 3 (EF.bin add_ok (EF.sli (EF.var 3) EP'.p0 (EP'.p1 (EF.var 6))) (EF.sli (EF.var 3) (EP'.p1 (EF.bin add_ok (EF.var 6) EF.int)) EP'.p0)) hnd))
 SS.nil)
 (SS.cons (S1.ite (ET.c (EC.op (eq_ok (hu64 hr)) (EF.var 7) EF.int))
 (SS.one (S1.asg 3 (EF.bin add_ok (EF.bin add_ok (EF.sli (EF.var 3) EP'.p0 (EP'.p1 (EF.var 6))) (EF.lst (EA.cons (EF.ix (hu64 hr) EF.str (EF.bin mod_ok (EF.bin fdiv_ok (EF.var 5) EF.int) EF.int)) EA.nil))) (EF.sli (EF.var 3) (EP'.p1 (EF.bin add_ok (EF.var 6) EF.int)) EP'.p0)) hnd))
 SS.nil)
 (SS.fg 6 (SS.fg 4 (SS.fg 5 (SS.fg 7 SS.nil)))))))))))
 (SS.fg 6 (SS.fg 4 (SS.fg 5 (SS.fg 7 (SS.one (S1.ret (EF.sli (EF.var 3) EP'.p0 (EP'.p1 (EF.var 2)))))))))))), hm, hk, hb⟩
theorem sc__law_three : FnScope N__law_three [("script" : Str), ("at" : Str), ("most" : Str)] (defScope st__law_three) := ⟨rfl, rfl, rfl, by decide +kernel, rfl, by decide +kernel, by decide +kernel⟩
set_option maxHeartbeats 4000000 in
theorem ok__law_three (T : Tx K mg) : Cal P w K mg base CX0 False "_law_three" 3 D__law_three := by
 have K__law_row := ok__law_row (P := P) (w := w) (base := base) T
 have K__law_cell_at := ok__law_cell_at (P := P) (w := w) (base := base) T
 have K__law_changed := ok__law_changed (P := P) (w := w) (base := base) T
 have hnd := sc__law_three.nd
 obtain ⟨f, fd, Fn, hm, hk, hb⟩ := T.d__law_three.ex
 exact ⟨f, fd, _, fn0 Fn sc__law_three (fun cdv A outer s H E hr => (SS.cons (S1.asg 3 (EF.ofO (EO.call0 K__law_row (hr.mono (by decide)) (EA.cons (EF.ofO (EO.call0 K__law_cell_at (hr.mono (by decide)) (EA.cons (EF.var 0) (EA.cons (EF.var 1) EA.nil)))) (EA.cons (EF.var 2) EA.nil)))) hnd)
 (SS.cons (S1.asgO 4 (EO.lst (EA.cons (EF.var 3) EA.nil)) hnd)
 (SS.cons (S1.for (vs := [5]) PassesOwn.never rfl (EI.rg2 T.b_range (EA.cons EF.int (EA.cons EF.int EA.nil))) (EG.nm 5 hnd)
 (SS.cons (S1.asg 6 (EF.ofO (EO.call0 K__law_cell_at (hr.mono (by decide)) (EA.cons (EF.var 0) (EA.cons (EF.bin add_ok (EF.var 1) (EF.var 5)) EA.nil)))) hnd)
 (SS.cons (S1.ite (ET.c (EC.op (eq_ok (hu64 hr)) (EF.bin mod_ok (EF.ofO (EO.call0 K__law_cell_at (hr.mono (by decide)) (EA.cons (EF.var 0) (EA.cons (EF.bin add_ok (EF.var 1) EF.int) EA.nil)))) EF.int) EF.int))
 (SS.one (S1.app 4 (EF.ofO (EO.call0 K__law_row (hr.mono (by decide)) (EA.cons (EF.var 6) (EA.cons (EF.var 2) EA.nil))))))
 (SS.one (S1.app 4 (EF.ofO (EO.call0 K__law_changed (hr.mono (by decide)) (EA.cons (EF.var 3) (EA.cons (EF.var 6) (EA.cons (EF.var 2) EA.nil))))))))
 (SS.fg 6 (SS.fg 5 SS.nil)))))
 (SS.fg 6 (SS.fg 5 (SS.one (S1.retM 4)))))))), hm, hk, hb⟩
theorem sc__law_kind : FnScope N__law_kind [("e" : Str)] (defScope st__law_kind) := ⟨rfl, rfl, rfl, by decide +kernel, rfl, by decide +kernel, by decide +kernel⟩
set_option maxHeartbeats 4000000 in
theorem ok__law_kind (T : Tx K mg) {xc : Str} {qq : Option Addr} (hxc : xc ∈ exT) : CalHQ P w K mg base "_law_kind" 1 xc qq (fun a => D__law_kind a qq xc) := by
 have hnd := sc__law_kind.nd
 obtain ⟨f, fd, Fn, hm, hk, hb⟩ := T.d__law_kind.ex
 exact ⟨f, fd, _, hotQ0 (F := fun a => B__law_kind a qq xc) Fn sc__law_kind (fun cdv A outer s H E q hr cau => (SS.cons (S1.asg 1 (EF.lst (EA.cons (EF.isXQ (d := ("BadRow" : Str)) cau hxc T.exk T.b_isinstance (EF.var 0) (by decide)) (EA.cons (EF.isXQ (d := ("NoFit" : Str)) cau hxc T.exk T.b_isinstance (EF.var 0) (by decide)) (EA.cons (EF.isXQ (d := ("BadTree" : Str)) cau hxc T.exk T.b_isinstance (EF.var 0) (by decide)) (EA.cons (EF.isXQ (d := ("BadWeb" : Str)) cau hxc T.exk T.b_isinstance (EF.var 0) (by decide)) EA.nil))))) hnd)
 (SS.cons (S1.asg 1 (EF.bin add_ok (EF.var 1) (EF.lst (EA.cons (EF.isXQ (d := ("NoVersion" : Str)) cau hxc T.exk T.b_isinstance (EF.var 0) (by decide)) (EA.cons (EF.isXQ (d := ("Clash" : Str)) cau hxc T.exk T.b_isinstance (EF.var 0) (by decide)) EA.nil)))) hnd)
 (SS.cons (S1.ite (EW.t (ET.or (ET.not (ET.v (EF.isXQv cau hxc T.exk T.b_isinstance T.b_ValueError (EF.var 0)))) (ET.or (ET.c (EC.op (ne_ok (hu64h hr)) (EF.meth cnt_ok PySem.F.plainAttrs_list PySem.F.slot_list_count PySem.F.type_list_count (EF.var 1) (EA.cons EF.bl EA.nil)) EF.int)) (ET.or1 (ET.v (EF.isXQ (d := ("NoAsking" : Str)) cau hxc T.exk T.b_isinstance (EF.var 0) (by decide)))))))
 (SS.one (S1.ret EF.str))
 SS.nil)
 (SS.one (S1.ret (EF.ix (hu64h hr) (EF.lst (EA.cons EF.str (EA.cons EF.str (EA.cons EF.str (EA.cons EF.str (EA.cons EF.str (EA.cons EF.str EA.nil))))))) (EF.meth idx_ok PySem.F.plainAttrs_list PySem.F.slot_list_index PySem.F.type_list_index (EF.var 1) (EA.cons EF.bl EA.nil))))))))), hm, hk, hb⟩
theorem sc__law_settled : FnScope N__law_settled [("told" : Str), ("picks" : Str)] (defScope st__law_settled) := ⟨rfl, rfl, rfl, by decide +kernel, rfl, by decide +kernel, by decide +kernel⟩
set_option maxHeartbeats 4000000 in
theorem ok__law_settled (T : Tx K mg) : Cal P w K mg base CX0 False "_law_settled" 1 D__law_settled := by
 have hnd := sc__law_settled.nd
 obtain ⟨f, fd, Fn, hm, hk, hb⟩ := T.d__law_settled.ex
 exact ⟨f, fd, _, fn0 Fn sc__law_settled (fun cdv A outer s H E hr => (SS.cons (S1.asgO 2 (EO.callT list_ok T.b_list (by decide +kernel) (EA.cons (EF.var 1) EA.nil)) hnd)
 (SS.cons (S1.asgO 3 (EO.lst EA.nil) hnd)
 (SS.cons (S1.for (vs := [4]) PassesOwn.never rfl (EI.sq (EF.var 0)) (EG.nm 4 hnd)
 (SS.cons (S1.asg 5 (EF.ix (hu64 hr) (EF.var 4) (EF.un neg_ok EF.int)) hnd)
 (SS.cons (S1.ite (ET.c (EC.op (eq_ok (hu64 hr)) (EF.ix (hu64 hr) (EF.var 4) EF.int) EF.str))
 (SS.cons (S1.asg 6 (EF.ofO (EO.disp (EPs.cons EF.str (EF.ix (hu64 hr) (EF.var 4) EF.int) (EPs.cons EF.str (EF.ix (hu64 hr) (EF.var 4) EF.int) (EPs.cons EF.str (EF.ix (hu64 hr) (EF.var 4) EF.int) EPs.nil))))) hnd)
 (SS.cons (S1.asg 5 (EF.lst EA.nil) hnd)
 (SS.one (S1.forX (vs := [7]) PassesOwn.never rfl (EX.methD spl_ok PySem.F.plainAttrs_str PySem.F.slot_str_split PySem.F.type_str_split (EX.mt popAt_mtG PySem.F.plainAttrs_list PySem.F.slot_list_pop PySem.F.type_list_pop (EP.nm 2) (EXA.cons (EX.ofF EF.int) EXA.nil)) (EA.cons EF.str EA.nil)) (EG.nm 7 hnd)
 (SS.cons (S1.asg 5 (EF.bin add_ok (EF.var 5) (EF.ix (hu64 hr) (EF.var 6) (EF.var 7))) hnd)
 (SS.fg 7 SS.nil))))))
 SS.nil)
 (SS.fg 6 (SS.fg 7 (SS.fz 3 (SS.cons (S1.asgO 3 (EO.bin addO_ok (EF.var 3) (EF.var 5)) hnd)
 (SS.fg 5 (SS.fg 4 (SS.fg 6 (SS.fg 7 SS.nil)))))))))))
 (SS.fg 5 (SS.fg 4 (SS.fg 6 (SS.fg 7 (SS.one (S1.retM 3)))))))))), hm, hk, hb⟩
theorem sc__law_tried : FnScope N__law_tried [("told" : Str), ("picks" : Str)] (defScope st__law_tried) := ⟨rfl, rfl, rfl, by decide +kernel, rfl, by decide +kernel, by decide +kernel⟩
set_option maxHeartbeats 4000000 in
theorem ok__law_tried (T : Tx K mg) : Cal P w K mg base CX0 False "_law_tried" 6 D__law_tried := by
 have K_settled := ok_settled (P := P) (w := w) (base := base) T
 have K_merged := ok_merged (P := P) (w := w) (base := base) T
 have K__law_kind := fun {xc : Str} {qq : Option Addr} (hxc : xc ∈ exT) => ok__law_kind (P := P) (w := w) (base := base) (qq := qq) T hxc
 have hnd := sc__law_tried.nd
 obtain ⟨f, fd, Fn, hm, hk, hb⟩ := T.d__law_tried.ex
 exact ⟨f, fd, _, fn0 Fn sc__law_tried (fun cdv A outer s H E hr => (SS.one (S1.tryQ T.exk takesN0 (fun W0 pn0 xe0 tk0 hp0 => (SS.cons (S1.ite (ET.c (EC.isN (EF.var 1)))
 (SS.one (S1.retX (EX.tup (EXA.cons (EX.ofF EF.str) (EXA.cons (EX.ofO (EO.call K_merged (hr.mono (by decide)) (fun σ => L2N.passAt tk0 σ) (fun _ => trivial) (EA.cons (EF.var 0) EA.nil))) EXA.nil)))))
 SS.nil)
 (SS.one (S1.retX (EX.tup (EXA.cons (EX.ofF EF.str) (EXA.cons (EX.ofO (EO.call K_settled (hr.mono (by decide)) (fun σ => L2N.passAt tk0 σ) (fun _ => trivial) (EA.cons (EF.var 0) (EA.cons (EF.var 1) EA.nil)))) EXA.nil)))))))
 (ClsQ.as (i := 2) (by decide) rfl (by decide) hnd rfl rfl (by decide) (fun a qq pn xc hxc cau => (SS.cons (S1.ite (EW.t (ET.and (ET.c (EC.op (eq_ok (hu64h (roomS hr))) (EF.ofO (EO.hotQ (K__law_kind hxc) (roomS (hr.mono (by decide))) rfl cau (EA.cons (EF.var 2) EA.nil))) EF.str)) (ET.and1 (ET.c (EC.op (ne_ok (hu64h (roomS hr))) (EF.pth cau hxc T.xfk (EF.var 2)) (EF.lst EA.nil))))))
 (SS.one (S1.retX (EX.tup (EXA.cons (EX.ofF EF.str) (EXA.cons (EX.ofF EF.non) EXA.nil)))))
 SS.nil)
 (SS.one (S1.retX (EX.tup (EXA.cons (EX.ofF (EF.ofO (EO.hotQ (K__law_kind hxc) (roomS (hr.mono (by decide))) rfl cau (EA.cons (EF.var 2) EA.nil)))) (EXA.cons (EX.ofF EF.non) EXA.nil)))))))
 ClsQ.nil)))), hm, hk, hb⟩
theorem sc__law_right : FnScope N__law_right [("told" : Str), ("picks" : Str), ("due" : Str)] (defScope st__law_right) := ⟨rfl, rfl, rfl, by decide +kernel, rfl, by decide +kernel, by decide +kernel⟩
set_option maxHeartbeats 4000000 in
theorem ok__law_right (T : Tx K mg) : Cal P w K mg base CX0 False "_law_right" 7 D__law_right := by
 have K__law_tried := ok__law_tried (P := P) (w := w) (base := base) T
 have hnd := sc__law_right.nd
 obtain ⟨f, fd, Fn, hm, hk, hb⟩ := T.d__law_right.ex
 exact ⟨f, fd, _, fn0 Fn sc__law_right (fun cdv A outer s H E hr => (SS.cons (S1.ite (ET.c (EC.isN (EF.var 2)))
 (SS.one (S1.ret (EF.cmp (EC.op (eq_ok (hu64 hr)) (EF.ix (hu64 hr) (EF.ofO (EO.call0 K__law_tried (hr.mono (by decide)) (EA.cons (EF.var 0) (EA.cons (EF.var 1) EA.nil)))) EF.int) (EF.ix (hu64 hr) (EF.lst (EA.cons EF.str (EA.cons EF.str EA.nil))) (EF.callT int1_ok T.b_int (by decide +kernel) (EA.cons (EF.cmp (EC.isN (EF.var 1))) EA.nil)))))))
 SS.nil)
 (SS.cons (S1.for (vs := [3]) PassesOwn.never rfl (EI.rg1 T.b_range (EA.cons EF.int EA.nil)) (EG.nm 3 hnd)
 (SS.cons (S1.asgO 4 (EO.call0 K__law_tried (hr.mono (by decide)) (EA.cons (EF.var 0) (EA.cons (EF.var 1) EA.nil))) hnd)
 (SS.cons (S1.ite (ET.bor (EW.t (ET.or (ET.c (EC.op (ne_ok (hu64 hr)) (EF.ix (hu64 hr) (EF.var 4) EF.int) EF.str)) (ET.or (ET.not (ET.v (EF.isi (T := "list") T.b_isinstance T.b_list (EF.ix (hu64 hr) (EF.var 4) EF.int)))) (ET.or1 (ET.c (EC.op (ne_ok (hu64 hr)) (EF.ix (hu64 hr) (EF.var 4) EF.int) (EF.var 2))))))))
 (SS.one (S1.ret EF.bl))
 SS.nil)
 (SS.cons (S1.mutL app_mut PySem.F.slot_list_append PySem.F.type_list_append (EP.ix (hu64 hr) (EP.nm 4) EF.int) (EA.cons EF.str EA.nil))
 (SS.fg 4 (SS.fg 3 SS.nil))))))
 (SS.fg 4 (SS.fg 3 (SS.one (S1.ret EF.bl))))))), hm, hk, hb⟩
theorem sc_law : FnScope N_law [("script" : Str)] (defScope st_law) := ⟨rfl, rfl, rfl, by decide +kernel, rfl, by decide +kernel, by decide +kernel⟩
set_option maxHeartbeats 4000000 in
theorem fn_law {f : Addr} {fd : FuncData} (T : Tx K mg) (Fn : Fun K "law" "law" st_law f fd) : FnOk P w K mg base CX0 8 f fd ["script"] (spP K mg False D_law) := by
 have K__law_three := ok__law_three (P := P) (w := w) (base := base) T
 have K_pieces := ok_pieces (P := P) (w := w) (base := base) T
 have K__law_settled := ok__law_settled (P := P) (w := w) (base := base) T
 have K__law_right := ok__law_right (P := P) (w := w) (base := base) T
 have K__law_cell_at := ok__law_cell_at (P := P) (w := w) (base := base) T
 have hnd := sc_law.nd
 exact fn0 Fn sc_law (fun cdv A outer s H E hr => (SS.cons (S1.asg 1 (EF.ofO (EO.call0 K__law_three (hr.mono (by decide)) (EA.cons (EF.var 0) (EA.cons EF.int (EA.cons EF.int EA.nil))))) hnd)
 (SS.cons (S1.asg 2 (EF.ofO (EO.call K_pieces (hr.mono (by decide)) pxW0 (fun _ => trivial) (EA.cons (EF.ix (hu64 hr) (EF.var 1) EF.int) (EA.cons (EF.ix (hu64 hr) (EF.var 1) EF.int) (EA.cons (EF.ix (hu64 hr) (EF.var 1) EF.int) EA.nil))))) hnd)
 (SS.cons (S1.lc (own := [(("piece" : Str), 11)]) 3 rfl hnd (EI.sq (EF.var 2)) (blkOk_by (N := N_law) (sc := defScope st_law) (by decide +kernel)) (fun _ _ _ _ _ => (EG.nm 11 hnd)) (fun _ _ _ _ _ => ETs.nil) (fun _ _ _ _ _ => (EO.ofF (EF.bin add_ok (EF.sli (EF.var 11) EP'.p0 (EP'.p1 EF.int)) (EF.callT tuple_ok T.b_tuple (by decide +kernel) (EA.cons (EF.ofO (EO.lc (own := [(("lines" : Str), 13)]) rfl hnd (EI.sq (EF.sli (EF.var 11) (EP'.p1 EF.int) EP'.p0)) (blk_in (N := N_law) (sc0 := defScope st_law) rfl (by decide +kernel)) (fun _ _ _ _ _ => (EG.nm 13 hnd)) (fun _ _ _ _ _ => ETs.nil) (fun _ _ _ _ _ => (EO.callT list_ok T.b_list (by decide +kernel) (EA.cons (EF.var 13) EA.nil))))) EA.nil))))) (sw_true rfl rfl rfl (by decide +kernel)))
 (SS.fz 3 (SS.cons (S1.lc (own := [(("piece" : Str), 11)]) 4 rfl hnd (EI.sq (EF.var 2)) (blkOk_by (N := N_law) (sc := defScope st_law) (by decide +kernel)) (fun _ _ _ _ _ => (EG.nm 11 hnd)) (fun _ _ _ _ _ => (ETs.one (ET.c (EC.op (eq_ok (hu64 hr)) (EF.ix (hu64 hr) (EF.var 11) EF.int) EF.str)))) (fun _ _ _ _ _ => (EO.ofF (EF.var 11))) (sw_true rfl rfl rfl (by decide +kernel)))
 (SS.fz 4 (SS.cons (S1.asg 5 EF.non hnd)
 (SS.cons (S1.ite (ET.c (EC.op (eq_ok (hu64 hr)) (EF.callB len_ok T.b_len (by decide +kernel) (EA.cons (EF.var 4) EA.nil)) EF.int))
 (SS.one (S1.asg 5 (EF.ofO (EO.call0 K__law_settled (hr.mono (by decide)) (EA.cons (EF.var 2) (EA.cons (EF.lst EA.nil) EA.nil)))) hnd))
 SS.nil)
 (SS.cons (S1.ite (ET.not (ET.v (EF.ofO (EO.call0 K__law_right (hr.mono (by decide)) (EA.cons (EF.var 2) (EA.cons EF.non (EA.cons (EF.var 5) EA.nil)))))))
 (SS.one (S1.ret EF.bl))
 SS.nil)
 (SS.cons (S1.asg 6 (EF.lst (EA.cons EF.str (EA.cons EF.str (EA.cons EF.str (EA.cons EF.str (EA.cons EF.str EA.nil)))))) hnd)
 (SS.cons (S1.lc (own := [(("k" : Str), 12)]) 7 rfl hnd (EI.rg1 T.b_range (EA.cons (EF.callB len_ok T.b_len (by decide +kernel) (EA.cons (EF.var 4) EA.nil)) EA.nil)) (blkOk_by (N := N_law) (sc := defScope st_law) (by decide +kernel)) (fun _ _ _ _ _ => (EG.nm 12 hnd)) (fun _ _ _ _ _ => ETs.nil) (fun _ _ _ _ _ => (EO.ofF (EF.ix (hu64 hr) (EF.var 6) (EF.bin mod_ok (EF.ofO (EO.call0 K__law_cell_at (hr.mono (by decide)) (EA.cons (EF.var 0) (EA.cons (EF.bin add_ok EF.int (EF.var 12)) EA.nil)))) EF.int)))) (sw_true rfl rfl rfl (by decide +kernel)))
 (SS.cons (S1.asg 5 (EF.ofO (EO.bor (EO.call0 K__law_settled (hr.mono (by decide)) (EA.cons (EF.var 2) (EA.cons (EF.var 7) EA.nil))))) hnd)
 (SS.cons (S1.asg 8 (EF.bin mod_ok (EF.ofO (EO.call0 K__law_cell_at (hr.mono (by decide)) (EA.cons (EF.var 0) (EA.cons EF.int EA.nil)))) EF.int) hnd)
 (SS.cons (S1.ite (ET.c (EC.op (eq_ok (hu64 hr)) (EF.var 8) EF.int))
 (SS.fz 7 (SS.cons (S1.asgO 7 (EO.pick (EO.disL (EOA.cons (EO.bin addO_ok (EF.var 7) (EF.lst (EA.cons EF.str EA.nil))) (EOA.cons (EO.bin addO_ok (EF.sli (EF.var 7) (EP'.p1 EF.int) EP'.p0) (EF.sli (EF.lst (EA.cons EF.str (EA.cons EF.str (EA.cons EF.str (EA.cons EF.str (EA.cons EF.str EA.nil)))))) EP'.p0 (EP'.p1 EF.int))) EOA.nil))) (EF.bin mod_ok (EF.callB len_ok T.b_len (by decide +kernel) (EA.cons (EF.var 7) EA.nil)) EF.int)) hnd)
 (SS.one (S1.asg 5 EF.non hnd))))
 SS.nil)
 (SS.cons (S1.ite (ET.bor (EW.t (ET.and (ET.c (EC.op (eq_ok (hu64 hr)) (EF.var 8) EF.int)) (ET.and1 (ET.c (EC.op (gt_ok (hu64 hr)) (EF.callB len_ok T.b_len (by decide +kernel) (EA.cons (EF.var 7) EA.nil)) EF.int))))))
 (SS.fz 7 (SS.cons (S1.asgO 7 (EO.sli (EF.var 7) (EP'.p1 EF.int) EP'.p0) hnd)
 (SS.one (S1.asg 5 EF.non hnd))))
 SS.nil)
 (SS.cons (S1.ite (ET.bor (EW.t (ET.and (ET.c (EC.op (eq_ok (hu64 hr)) (EF.var 8) EF.int)) (ET.and1 (ET.c (EC.op (gt_ok (hu64 hr)) (EF.callB len_ok T.b_len (by decide +kernel) (EA.cons (EF.var 7) EA.nil)) EF.int))))))
 (SS.cons (S1.asg 10 (EF.bor (EF.bin mod_ok (EF.ofO (EO.call0 K__law_cell_at (hr.mono (by decide)) (EA.cons (EF.var 0) (EA.cons EF.int EA.nil)))) (EF.callB len_ok T.b_len (by decide +kernel) (EA.cons (EF.var 7) EA.nil)))) hnd)
 (SS.cons (S1.put 7 (hu64 hr) (EF.ix (hu64 hr) (EF.lst (EA.cons EF.str (EA.cons EF.str (EA.cons EF.str (EA.cons EF.str (EA.cons EF.str (EA.cons EF.str EA.nil))))))) (EF.bin mod_ok (EF.ofO (EO.call0 K__law_cell_at (hr.mono (by decide)) (EA.cons (EF.var 0) (EA.cons EF.int EA.nil)))) EF.int)) (EF.var 10))
 (SS.one (S1.asg 5 EF.non hnd))))
 SS.nil)
 (SS.fg 10 (SS.fz 7 (SS.cons (S1.asg 9 (EF.ofO (EO.callT list_ok T.b_list (by decide +kernel) (EA.cons (EF.var 7) EA.nil))) hnd)
 (SS.one (S1.ret (EF.and (EF.ofO (EO.call0 K__law_right (hr.mono (by decide)) (EA.cons (EF.var 2) (EA.cons (EF.var 9) (EA.cons (EF.var 5) EA.nil))))) (EF.and (EF.cmp (EC.op (eq_ok (hu64 hr)) (EF.var 9) (EF.var 7))) (EF.one (EF.cmp (EC.op (eq_ok (hu64 hr)) (EF.var 2) (EF.var 3))))))))))))))))))))))))))))
end
def fnl : List He.DefD := [dD "is_line" st_is_line, dD "is_row" st_is_row, dD "check_row" st_check_row, dD "has_clash" st_has_clash, dD "as_row" st_as_row, dD "merged_lines" st_merged_lines, dD "merged" st_merged, dD "picked" st_picked, dD "settled" st_settled, dD "check_two" st_check_two, dD "most_kept" st_most_kept, dD "first_pair" st_first_pair, dD "kept_by" st_kept_by, dD "kept" st_kept, dD "held" st_held, dD "add_same" st_add_same, dD "add_stretch" st_add_stretch, dD "pieces" st_pieces, dD "_law_cell_at" st__law_cell_at, dD "_law_next" st__law_next, dD "_law_row" st__law_row, dD "_law_changed" st__law_changed, dD "_law_three" st__law_three, dD "_law_kind" st__law_kind, dD "_law_settled" st__law_settled, dD "_law_tried" st__law_tried, dD "_law_right" st__law_right, dD "law" st_law, dM "Clash" "__init__" "Clash.__init__" st_Clash___init__]
def fal : List He.Fa := [.glo "is_line", .glo "is_row", .glo "check_row", .glo "has_clash", .glo "as_row", .glo "merged_lines", .glo "merged", .glo "picked", .glo "settled", .glo "check_two", .glo "most_kept", .glo "first_pair", .glo "kept_by", .glo "kept", .glo "held", .glo "add_same", .glo "add_stretch", .glo "pieces", .glo "_law_cell_at", .glo "_law_next", .glo "_law_row", .glo "_law_changed", .glo "_law_three", .glo "_law_kind", .glo "_law_settled", .glo "_law_tried", .glo "_law_right", .glo "law", .free "ValueError", .free "all", .free "any", .free "dict", .free "int", .free "isinstance", .free "len", .free "list", .free "max", .free "range", .free "tuple", .str "LETTERS" ("abcdefghijklmnopqrstuvwxyz" : Str), .int "MOST_LINES" 40, .int "MOST_SIGNS" 8, .glo "BadRow", .exc "BadRow", .glo "NoFit", .exc "NoFit", .glo "Clash", .meth "Clash" "__init__"]
abbrev Rw : PySem.W.OpenRow := PySem.W.OpenLaw.row PySem.Challenge.rw_pasthall_k33_merged_and_settled
abbrev hk : PySem.W.Hook := hookF 4 (ttQ fal exT exS [("Clash" : Str)]) fnl
def ob (s : PySem.W.SharedT) : He.AlD := obsFG 4 (ttQ fal exT exS [("Clash" : Str)]) fnl (HandSHeadRun.getT s)
theorem ob_eq (s : PySem.W.SharedT) : ob s = hk.obs s.abs := obsFG_eq (HandSHeadRun.getT_eq s)
def lo : List PySem.Str := (["PastError", "BadRow", "NoFit", "BadTree", "BadWeb", "NoVersion", "NoAsking", "Clash", "LETTERS", "MOST_LINES", "MOST_SIGNS", "is_line", "is_row", "check_row", "has_clash", "as_row", "merged_lines", "merged", "picked", "settled", "check_two", "most_kept", "first_pair", "kept_by", "kept", "held", "add_same", "add_stretch", "pieces", "_law_cell_at"] : List PySem.Str) ++ (["_law_next", "_law_row", "_law_changed", "_law_three", "_law_kind", "_law_settled", "_law_tried", "_law_right"] : List PySem.Str)
set_option maxHeartbeats 0 in
theorem run_top (w : World) : HandSHeadRun.RunEq Rw (PySem.W.view Rw.prog [44]) hk ob 9000 lo w := by
 intro os
 kernel_rfl
set_option maxHeartbeats 8000000 in
theorem tx_of {K : PySem.W.Frag} {h : Heap} {mg : Str → Option Value} (X : K.In h) (G : h.Ns mainGlobals mg) (c : SaysF (ttQ fal exT exS [("Clash" : Str)]) fnl K) : Tx K mg where
 b_ValueError := He.free_ok X G (ttF_fact (ttQ_f c.tests) 28 (f := .free "ValueError") rfl)
 b_all := He.free_ok X G (ttF_fact (ttQ_f c.tests) 29 (f := .free "all") rfl)
 b_any := He.free_ok X G (ttF_fact (ttQ_f c.tests) 30 (f := .free "any") rfl)
 b_dict := He.free_ok X G (ttF_fact (ttQ_f c.tests) 31 (f := .free "dict") rfl)
 b_int := He.free_ok X G (ttF_fact (ttQ_f c.tests) 32 (f := .free "int") rfl)
 b_isinstance := He.free_ok X G (ttF_fact (ttQ_f c.tests) 33 (f := .free "isinstance") rfl)
 b_len := He.free_ok X G (ttF_fact (ttQ_f c.tests) 34 (f := .free "len") rfl)
 b_list := He.free_ok X G (ttF_fact (ttQ_f c.tests) 35 (f := .free "list") rfl)
 b_max := He.free_ok X G (ttF_fact (ttQ_f c.tests) 36 (f := .free "max") rfl)
 b_range := He.free_ok X G (ttF_fact (ttQ_f c.tests) 37 (f := .free "range") rfl)
 b_tuple := He.free_ok X G (ttF_fact (ttQ_f c.tests) 38 (f := .free "tuple") rfl)
 c_LETTERS := He.str_ok X G (ttF_fact (ttQ_f c.tests) 39 (f := .str "LETTERS" ("abcdefghijklmnopqrstuvwxyz" : Str)) rfl)
 c_MOST_LINES := He.int_ok X G (ttF_fact (ttQ_f c.tests) 40 (f := .int "MOST_LINES" 40) rfl)
 c_MOST_SIGNS := He.int_ok X G (ttF_fact (ttQ_f c.tests) 41 (f := .int "MOST_SIGNS" 8) rfl)
 exk := exkB_ok X G (ttF_exk (ttQ_f c.tests))
 r_BadRow := rz_ok X G (ttF_fact (ttQ_f c.tests) 42 (f := .glo "BadRow") rfl) (ttF_fact (ttQ_f c.tests) 43 (f := .exc "BadRow") rfl)
 r_NoFit := rz_ok X G (ttF_fact (ttQ_f c.tests) 44 (f := .glo "NoFit") rfl) (ttF_fact (ttQ_f c.tests) 45 (f := .exc "NoFit") rfl)
 d_is_line := by
  obtain ⟨fd, F⟩ := c.def_ 0 (d := dD "is_line" st_is_line) rfl
  exact Dn.ofD X G F (ttF_fact (ttQ_f c.tests) 0 (f := .glo "is_line") rfl) (fun _ _ _ _ _ _ us hl => match us, hl with | [_], _ => rfl)
 d_is_row := by
  obtain ⟨fd, F⟩ := c.def_ 1 (d := dD "is_row" st_is_row) rfl
  exact Dn.ofD X G F (ttF_fact (ttQ_f c.tests) 1 (f := .glo "is_row") rfl) (fun _ _ _ _ _ _ us hl => match us, hl with | [_], _ => rfl)
 d_check_row := by
  obtain ⟨fd, F⟩ := c.def_ 2 (d := dD "check_row" st_check_row) rfl
  exact Dn.ofD X G F (ttF_fact (ttQ_f c.tests) 2 (f := .glo "check_row") rfl) (fun _ _ _ _ _ _ us hl => match us, hl with | [_], _ => rfl)
 d_has_clash := by
  obtain ⟨fd, F⟩ := c.def_ 3 (d := dD "has_clash" st_has_clash) rfl
  exact Dn.ofD X G F (ttF_fact (ttQ_f c.tests) 3 (f := .glo "has_clash") rfl) (fun _ _ _ _ _ _ us hl => match us, hl with | [_], _ => rfl)
 d_as_row := by
  obtain ⟨fd, F⟩ := c.def_ 4 (d := dD "as_row" st_as_row) rfl
  exact Dn.ofD X G F (ttF_fact (ttQ_f c.tests) 4 (f := .glo "as_row") rfl) (fun _ _ _ _ _ _ us hl => match us, hl with | [_], _ => rfl)
 d_merged_lines := by
  obtain ⟨fd, F⟩ := c.def_ 5 (d := dD "merged_lines" st_merged_lines) rfl
  exact Dn.ofD X G F (ttF_fact (ttQ_f c.tests) 5 (f := .glo "merged_lines") rfl) (fun _ _ _ _ _ _ us hl => match us, hl with | [_], _ => rfl)
 d_merged := by
  obtain ⟨fd, F⟩ := c.def_ 6 (d := dD "merged" st_merged) rfl
  exact Dn.ofD X G F (ttF_fact (ttQ_f c.tests) 6 (f := .glo "merged") rfl) (fun _ _ _ _ _ _ us hl => match us, hl with | [_], _ => rfl)
 d_picked := by
  obtain ⟨fd, F⟩ := c.def_ 7 (d := dD "picked" st_picked) rfl
  exact Dn.ofD X G F (ttF_fact (ttQ_f c.tests) 7 (f := .glo "picked") rfl) (fun _ _ _ _ _ _ us hl => match us, hl with | [_, _], _ => rfl)
 d_settled := by
  obtain ⟨fd, F⟩ := c.def_ 8 (d := dD "settled" st_settled) rfl
  exact Dn.ofD X G F (ttF_fact (ttQ_f c.tests) 8 (f := .glo "settled") rfl) (fun _ _ _ _ _ _ us hl => match us, hl with | [_, _], _ => rfl)
 d_check_two := by
  obtain ⟨fd, F⟩ := c.def_ 9 (d := dD "check_two" st_check_two) rfl
  exact Dn.ofD X G F (ttF_fact (ttQ_f c.tests) 9 (f := .glo "check_two") rfl) (fun _ _ _ _ _ _ us hl => match us, hl with | [_, _], _ => rfl)
 d_most_kept := by
  obtain ⟨fd, F⟩ := c.def_ 10 (d := dD "most_kept" st_most_kept) rfl
  exact Dn.ofD X G F (ttF_fact (ttQ_f c.tests) 10 (f := .glo "most_kept") rfl) (fun _ _ _ _ _ _ us hl => match us, hl with | [_, _], _ => rfl)
 d_first_pair := by
  obtain ⟨fd, F⟩ := c.def_ 11 (d := dD "first_pair" st_first_pair) rfl
  exact Dn.ofD X G F (ttF_fact (ttQ_f c.tests) 11 (f := .glo "first_pair") rfl) (fun _ _ _ _ _ _ us hl => match us, hl with | [_, _, _, _, _], _ => rfl)
 d_kept_by := by
  obtain ⟨fd, F⟩ := c.def_ 12 (d := dD "kept_by" st_kept_by) rfl
  exact Dn.ofD X G F (ttF_fact (ttQ_f c.tests) 12 (f := .glo "kept_by") rfl) (fun _ _ _ _ _ _ us hl => match us, hl with | [_, _], _ => rfl)
 d_kept := by
  obtain ⟨fd, F⟩ := c.def_ 13 (d := dD "kept" st_kept) rfl
  exact Dn.ofD X G F (ttF_fact (ttQ_f c.tests) 13 (f := .glo "kept") rfl) (fun _ _ _ _ _ _ us hl => match us, hl with | [_, _], _ => rfl)
 d_held := by
  obtain ⟨fd, F⟩ := c.def_ 14 (d := dD "held" st_held) rfl
  exact Dn.ofD X G F (ttF_fact (ttQ_f c.tests) 14 (f := .glo "held") rfl) (fun _ _ _ _ _ _ us hl => match us, hl with | [_, _, _], _ => rfl)
 d_add_same := by
  obtain ⟨fd, F⟩ := c.def_ 15 (d := dD "add_same" st_add_same) rfl
  exact Dn.ofD X G F (ttF_fact (ttQ_f c.tests) 15 (f := .glo "add_same") rfl) (fun _ _ _ _ _ _ us hl => match us, hl with | [_, _], _ => rfl)
 d_add_stretch := by
  obtain ⟨fd, F⟩ := c.def_ 16 (d := dD "add_stretch" st_add_stretch) rfl
  exact Dn.ofD X G F (ttF_fact (ttQ_f c.tests) 16 (f := .glo "add_stretch") rfl) (fun _ _ _ _ _ _ us hl => match us, hl with | [_, _, _, _], _ => rfl)
 d_pieces := by
  obtain ⟨fd, F⟩ := c.def_ 17 (d := dD "pieces" st_pieces) rfl
  exact Dn.ofD X G F (ttF_fact (ttQ_f c.tests) 17 (f := .glo "pieces") rfl) (fun _ _ _ _ _ _ us hl => match us, hl with | [_, _, _], _ => rfl)
 d__law_cell_at := by
  obtain ⟨fd, F⟩ := c.def_ 18 (d := dD "_law_cell_at" st__law_cell_at) rfl
  exact Dn.ofD X G F (ttF_fact (ttQ_f c.tests) 18 (f := .glo "_law_cell_at") rfl) (fun _ _ _ _ _ _ us hl => match us, hl with | [_, _], _ => rfl)
 d__law_next := by
  obtain ⟨fd, F⟩ := c.def_ 19 (d := dD "_law_next" st__law_next) rfl
  exact Dn.ofD X G F (ttF_fact (ttQ_f c.tests) 19 (f := .glo "_law_next") rfl) (fun _ _ _ _ _ _ us hl => match us, hl with | [_], _ => rfl)
 d__law_row := by
  obtain ⟨fd, F⟩ := c.def_ 20 (d := dD "_law_row" st__law_row) rfl
  exact Dn.ofD X G F (ttF_fact (ttQ_f c.tests) 20 (f := .glo "_law_row") rfl) (fun _ _ _ _ _ _ us hl => match us, hl with | [_, _], _ => rfl)
 d__law_changed := by
  obtain ⟨fd, F⟩ := c.def_ 21 (d := dD "_law_changed" st__law_changed) rfl
  exact Dn.ofD X G F (ttF_fact (ttQ_f c.tests) 21 (f := .glo "_law_changed") rfl) (fun _ _ _ _ _ _ us hl => match us, hl with | [_, _, _], _ => rfl)
 d__law_three := by
  obtain ⟨fd, F⟩ := c.def_ 22 (d := dD "_law_three" st__law_three) rfl
  exact Dn.ofD X G F (ttF_fact (ttQ_f c.tests) 22 (f := .glo "_law_three") rfl) (fun _ _ _ _ _ _ us hl => match us, hl with | [_, _, _], _ => rfl)
 d__law_kind := by
  obtain ⟨fd, F⟩ := c.def_ 23 (d := dD "_law_kind" st__law_kind) rfl
  exact Dn.ofD X G F (ttF_fact (ttQ_f c.tests) 23 (f := .glo "_law_kind") rfl) (fun _ _ _ _ _ _ us hl => match us, hl with | [_], _ => rfl)
 d__law_settled := by
  obtain ⟨fd, F⟩ := c.def_ 24 (d := dD "_law_settled" st__law_settled) rfl
  exact Dn.ofD X G F (ttF_fact (ttQ_f c.tests) 24 (f := .glo "_law_settled") rfl) (fun _ _ _ _ _ _ us hl => match us, hl with | [_, _], _ => rfl)
 d__law_tried := by
  obtain ⟨fd, F⟩ := c.def_ 25 (d := dD "_law_tried" st__law_tried) rfl
  exact Dn.ofD X G F (ttF_fact (ttQ_f c.tests) 25 (f := .glo "_law_tried") rfl) (fun _ _ _ _ _ _ us hl => match us, hl with | [_, _], _ => rfl)
 d__law_right := by
  obtain ⟨fd, F⟩ := c.def_ 26 (d := dD "_law_right" st__law_right) rfl
  exact Dn.ofD X G F (ttF_fact (ttQ_f c.tests) 26 (f := .glo "_law_right") rfl) (fun _ _ _ _ _ _ us hl => match us, hl with | [_, _, _], _ => rfl)
 d_law := by
  obtain ⟨fd, F⟩ := c.def_ 27 (d := dD "law" st_law) rfl
  exact Dn.ofD X G F (ttF_fact (ttQ_f c.tests) 27 (f := .glo "law") rfl) (fun _ _ _ _ _ _ us hl => match us, hl with | [_], _ => rfl)
 xfk := xfkB_ok X G (ttQ_x c.tests)
 x_Clash := by
  obtain ⟨fd, F⟩ := c.def_ 28 (d := dM "Clash" "__init__" "Clash.__init__" st_Clash___init__) rfl
  exact InP.ofD X G F (ttF_fact (ttQ_f c.tests) 46 (f := .glo "Clash") rfl) (ttF_fact (ttQ_f c.tests) 47 (f := .meth "Clash" "__init__") rfl) (ttQ_c c.tests (by decide)) (ttQ_x c.tests) (by decide) (fun _ _ _ _ _ _ us hl => match us, hl with | [_, _], _ => rfl)
theorem law_ends (hF : ∀ ns : List Int, ns.length ≤ 63 → D_law [.scr ns] = .ok (.d (.bl true))) {P : Program} {w : World} {K : PySem.W.Frag} {h : Heap} {mg : Str → Option Value} {fa : Addr} (X : K.In h) (G : h.Ns mainGlobals mg) (hfa : mg "law" = some (.ref fa)) (c : SaysF (ttQ fal exT exS [("Clash" : Str)]) fnl K) :
  ∃ fd : FuncData, (∀ (s : Shared) (v : Value), BindsTo s fd ⟨[v], []⟩ [("script", v)]) ∧ ∀ base : Heap, K.In base → base.Ns mainGlobals mg → FnOk P w K mg base CX0 8 fa fd ["script"] (spLaw K) := by
 obtain ⟨fd, F⟩ := c.def_ 27 (d := dD "law" st_law) rfl
 have e := hfa.symm.trans (He.glo_ok X G (ttF_fact (ttQ_f c.tests) 27 (f := .glo "law") rfl))
 cases e
 have T := tx_of X G c
 have b := FunD.bindsA (ps := ["script"]) F fun _ _ _ _ _ _ us hl => match us, hl with | [_], _ => rfl
 exact ⟨fd, fun s v => b s [v] rfl, fun base _ _ => law_fn (fn_law T (fun_ofD F)) hF⟩
end FL
open PySem PySem.W PySem.Calls PyProof.Rows
set_option maxHeartbeats 0 in
theorem PySem.Challenge.cw_pasthall_k33_merged_and_settled_holds : PySem.Challenge.rw_pasthall_k33_merged_and_settled.Holds := by
 w_on; o_law
 refine HandSHeadRun.head_any (r := FL.Rw) (q := view FL.Rw.prog [44]) (H := FL.hk) (ob := FL.ob) (M := 9000) (loose := FL.lo) (d := HandSHeadRun.topDef FL.Rw.prog 44) (kwd := []) FL.ob_eq
  (by kernel_rfl) (fun s => by kernel_rfl) FL.run_top (by kernel_rfl) (by kernel_rfl) (by kernel_rfl) (by rfl) (by first | assumption | decide +kernel) (by decide +kernel) ⟨rfl, rfl, rfl, rfl, rfl, by decide +kernel⟩ ?hw ?hc
 case hw => w_witness2
 case hc =>
  refine L2.walk_ofE (l := PySem.Challenge.rw_pasthall_k33_merged_and_settled) (n := 63) (k := 8) (x := "script") (CX := L2.CX0) rfl (by decide) (by kernel_rfl) ⟨rfl, by decide, by decide⟩ ?F (fun _ _ _ _ z => z)
  intro w mg fa h Y G hmg0
  obtain ⟨K, KX, c⟩ := Y
  have hmg : mg ("law" : PySem.Str) = some (.ref fa) := by
   have e : (HandSHeadRun.topDef FL.Rw.prog 44).name = ("law" : PySem.Str) := by kernel_rfl
   rw [← e]
   exact hmg0
  obtain ⟨fd, hb, hF⟩ := FL.law_ends FL.law_true (P := (PySem.Challenge.rw_pasthall_k33_merged_and_settled).prog) (w := w) KX G hmg c
  exact ⟨K, fd, FL.spLaw K, KX, hb, fun H a ns hl _ hS => ⟨a, ns, rfl, hS, hl, fun _ => rfl⟩, hF⟩
